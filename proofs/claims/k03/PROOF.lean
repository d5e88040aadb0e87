import PyProof.Rows.All
import HandS.ForMost
import HandS.Exc
import HandS.TryOnly
import HandS.ExcOwn
import HandS.WordsExc
import HandS.IsInst
import HandS.Wide
import HandS.TupAny
import HandS.Style
import KE.DataEq
import HandS.More
import PyProof.CollectIter
import PyProof.WalksMore
import PyProof.WalksS
import HandS.Base
import HandS.List
import KE.KRevSl
import HandS.ExcIs
import HandS.HeadHook1
import PyProof.ExcBaseAll.ValueError
import HandS.Words
import HandS.Codes
import HandS.Head0
import HandS.Head1
import HandS.Head2
import HandS.Ends
import HandS.HeadEnd
import HandS.HeadHook2
import HandS.HeadHook3
import HandS.HeadHook4
import PySem.Challenge.RW_forkrolls_k03_places_known
set_option autoImplicit false
/-! FkPure: data, a store, a small form of the language, its meaning as total functions. Core Lean alone. -/
namespace Fk

inductive D where
  | none | bl (b : Bool) | int (i : Int) | str (s : List Nat)
  | tup (ds : List D) | lst (ds : List D) | dic (ks vs : List D) | set (ds : List D)
  | scr (ns : List Int) | ref (i : Nat) | fn (f : Nat) | ty (t : Nat)
  | tab (ks : List (List Nat)) (vs : List D)
  deriving Inhabited

mutual
/-- no reference within -/
def D.pure : D → Bool
  | .ref _ => false
  | .tup ds => D.pureL ds
  | .lst ds => D.pureL ds
  | .dic ks vs => D.pureL ks && D.pureL vs
  | .set ds => D.pureL ds
  | .tab _ vs => D.pureL vs
  | _ => true
def D.pureL : List D → Bool
  | [] => true
  | d :: ds => d.pure && D.pureL ds
end
mutual
/-- one above the greatest reference within -/
def D.top : D → Nat
  | .ref i => i + 1
  | .tup ds => D.topL ds
  | .lst ds => D.topL ds
  | .dic ks vs => max (D.topL ks) (D.topL vs)
  | .set ds => D.topL ds
  | .tab _ vs => D.topL vs
  | _ => 0
def D.topL : List D → Nat
  | [] => 0
  | d :: ds => max d.top (D.topL ds)
end

mutual
def D.beq : D → D → Bool
  | .none, .none => true
  | .bl a, .bl b => a == b
  | .int a, .int b => a == b
  | .str a, .str b => a == b
  | .tup a, .tup b => D.beqL a b
  | .lst a, .lst b => D.beqL a b
  | .dic a b, .dic c d => D.beqL a c && D.beqL b d
  | .set a, .set b => D.beqL a b
  | .scr a, .scr b => a == b
  | .ref a, .ref b => a == b
  | .fn a, .fn b => a == b
  | .ty a, .ty b => a == b
  | .tab a b, .tab c d => a == c && D.beqL b d
  | _, _ => false
def D.beqL : List D → List D → Bool
  | [], [] => true
  | a :: as, b :: bs => D.beq a b && D.beqL as bs
  | _, _ => false
end
mutual
theorem D.beq_eq : ∀ a b : D, D.beq a b = true → a = b
  | .none, b, h => by cases b <;> simp_all [D.beq]
  | .bl _, b, h => by cases b <;> simp_all [D.beq]
  | .int _, b, h => by cases b <;> simp_all [D.beq]
  | .str _, b, h => by cases b <;> simp_all [D.beq]
  | .tup a, b, h => by cases b <;> simp [D.beq] at h; rw [D.beqL_eq _ _ h]
  | .lst a, b, h => by cases b <;> simp [D.beq] at h; rw [D.beqL_eq _ _ h]
  | .dic a a', b, h => by cases b <;> simp [D.beq] at h; rw [D.beqL_eq _ _ h.1, D.beqL_eq _ _ h.2]
  | .set a, b, h => by cases b <;> simp [D.beq] at h; rw [D.beqL_eq _ _ h]
  | .scr _, b, h => by cases b <;> simp_all [D.beq]
  | .ref _, b, h => by cases b <;> simp_all [D.beq]
  | .fn _, b, h => by cases b <;> simp_all [D.beq]
  | .ty _, b, h => by cases b <;> simp_all [D.beq]
  | .tab a a', b, h => by cases b <;> simp [D.beq] at h; rw [h.1, D.beqL_eq _ _ h.2]
theorem D.beqL_eq : ∀ a b : List D, D.beqL a b = true → a = b
  | [], b, h => by cases b <;> simp_all [D.beqL]
  | a :: as, b, h => by
    cases b with
    | nil => simp [D.beqL] at h
    | cons b bs => simp [D.beqL] at h; rw [D.beq_eq _ _ h.1, D.beqL_eq _ _ h.2]
end

/-- what stands in the store -/
inductive O where
  | gone | lst (ds : List D) | dic (ks vs : List D)
  deriving Inhabited
def O.pure : O → Bool
  | .gone => true
  | .lst ds => D.pureL ds
  | .dic ks vs => D.pureL ks && D.pureL vs
abbrev St := List O
abbrev Env := List (Option D)

structure Ex where
  cls : Nat
  arg : Option D
  deriving Inhabited

inductive R (α : Type) where
  | ok (a : α) (s : St) | err (x : Ex) (s : St) | bad
def R.bind {α β : Type} : R α → (α → St → R β) → R β
  | .ok a s, f => f a s
  | .err x s, _ => .err x s
  | .bad, _ => .bad
@[simp] theorem R.bind_ok {α β : Type} (a : α) (s : St) (f : α → St → R β) : (R.ok a s).bind f = f a s := rfl
@[simp] theorem R.bind_err {α β : Type} (x : Ex) (s : St) (f : α → St → R β) : (R.err x s : R α).bind f = .err x s := rfl
@[simp] theorem R.bind_bad {α β : Type} (f : α → St → R β) : (R.bad : R α).bind f = .bad := rfl

/-- a reference read -/
def rd (s : St) : D → D
  | .ref i => match s[i]? with
    | some (.lst ds) => .lst ds
    | some (.dic ks vs) => .dic ks vs
    | _ => .ref i
  | d => d

inductive Op where
  | add | sub | mul | fdiv | mod | pow
  deriving DecidableEq
inductive Cmp where
  | lt | le | gt | ge | eq | ne | isin | notin | is_ | isnot
  deriving DecidableEq
inductive Blt where
  | isinst (t : Nat) | len | all | any | min2 | max2 | abs | int_ | tuple_ | list_
  deriving DecidableEq
inductive Mth where
  | join
  deriving DecidableEq
inductive ItK where
  | val | range1 | range2
  deriving DecidableEq
inductive Pat where
  | s (i : Nat) | t (is : List Nat) | st (is : List Nat) (j : Nat)

inductive IE where
  | nop | c (d : D) | v (i : Nat)
  | bin (o : Op) (t : Bool) (a b : IE) | neg (a : IE)
  | cmp (o : Cmp) (a b : IE) | chain (o1 o2 : Cmp) (a b c : IE)
  | and (a b : IE) | or (a b : IE) | not (a : IE) | ite (c a b : IE)
  | tup (es : List IE) | lst (t : Bool) (es : List IE) | dic (es : List IE)
  | sub (a i : IE) | sl (t : Bool) (a lo hi : IE)
  | call (f : Nat) (es : List IE)
  | blt (b : Blt) (t : Bool) (es : List IE) | meth (m : Mth) (o : IE) (es : List IE)
  | rev (a : IE) | callv (i : Nat) (es : List IE)
  | lc (elt : IE) (p : Pat) (k : ItK) (its : List IE) (cond : IE)

/-- in an except suite: a constant; whether the exception is of a class -/
inductive SuE where
  | k (d : D) | isx (c : Nat) (m : List Nat)

inductive IS where
  | raise (c : Nat) | tryR (body : List IS) (m : List Nat) (h sl : Nat) (es : List SuE)
  | expr (e : IE) | set (p : Pat) (e : IE) | setSub (o i e : IE)
  | fz (i : Nat)
  | ife (c : IE) (a b : List IS)
  | forr (p : Pat) (k : ItK) (its : List IE) (body : List IS)
  | ret (e : IE) | pass

/-! ### values -/
def sizeLine : Nat := 16777216
def mapB (bs : List D) : Option (List Bool) := bs.mapM fun | .bl b => some b | _ => Option.none
def strsOf (ds : List D) : Option (List (List Nat)) := ds.mapM fun | .str x => some x | _ => Option.none

mutual
/-- == of data -/
def eqv : D → D → Bool
  | .none, .none => true
  | .bl a, .bl b => a == b
  | .int a, .int b => a == b
  | .bl a, .int b => (if a then 1 else 0) == b
  | .int a, .bl b => a == (if b then 1 else 0)
  | .str a, .str b => a == b
  | .tup a, .tup b => eqvL a b
  | .lst a, .lst b => eqvL a b
  | _, _ => false
def eqvL : List D → List D → Bool
  | [], [] => true
  | a :: as, b :: bs => eqv a b && eqvL as bs
  | _, _ => false
end
mutual
/-- data that == and in are told of -/
def flat : D → Bool
  | .none => true | .bl _ => true | .int _ => true | .str _ => true
  | .tup ds => flatL ds
  | .lst ds => flatL ds
  | _ => false
def flatL : List D → Bool
  | [] => true
  | d :: ds => flat d && flatL ds
end
mutual
def depth : D → Nat
  | .tup ds => depthL ds + 1
  | .lst ds => depthL ds + 1
  | _ => 0
def depthL : List D → Nat
  | [] => 0
  | d :: ds => max (depth d) (depthL ds)
end
/-- of no list, no tuple -/
def leaf : D → Bool
  | .none => true | .bl _ => true | .int _ => true | .str _ => true
  | _ => false

/-- a new object of the store -/
def alloc (o : O) (s : St) : R D := if o.pure then .ok (.ref s.length) (s ++ [o]) else .bad

/-- a new list, of the store (t) or not -/
def fin (t : Bool) (ds : List D) (s : St) : R D := if t then alloc (.lst ds) s else .ok (.lst ds) s
def binD (o : Op) (t : Bool) (x y : D) (s : St) : R D :=
  match o, rd s x, rd s y with
  | .add, .int a, .int b => .ok (.int (a + b)) s
  | .sub, .int a, .int b => .ok (.int (a - b)) s
  | .mul, .int a, .int b => if a.natAbs.log2 + b.natAbs.log2 < 1000000 then .ok (.int (a * b)) s else .bad
  | .fdiv, .int a, .int b => if 0 < b ∧ b.natAbs.log2 < 9000 then .ok (.int (a / b)) s else .bad
  | .mod, .int a, .int b => if 0 < b then .ok (.int (a % b)) s else .bad
  | .pow, .int a, .int b => if 0 ≤ b ∧ (a.natAbs.log2 + 1) * b.toNat ≤ 2 ^ 27 then .ok (.int (a ^ b.toNat)) s else .bad
  | .add, .str a, .str b => if a.length + b.length ≤ sizeLine then .ok (.str (a ++ b)) s else .bad
  | .add, .tup a, .tup b => if a.length + b.length ≤ sizeLine then .ok (.tup (a ++ b)) s else .bad
  | .add, .lst a, .lst b => if a.length + b.length ≤ sizeLine then fin t (a ++ b) s else .bad
  | _, _, _ => .bad

def isN : D → Bool
  | .none => true
  | _ => false
/-- lists of other lengths -/
def lenNe : D → D → Bool
  | .lst a, .lst b => decide (a.length ≠ b.length)
  | _, _ => false
def isB (b : Bool) : D → Bool
  | .bl c => b == c
  | _ => false
def cmpD (o : Cmp) (x y : D) (s : St) : R D :=
  match o, rd s x, rd s y with
  | .lt, .int a, .int b => .ok (.bl (decide (a < b))) s
  | .le, .int a, .int b => .ok (.bl (decide (a ≤ b))) s
  | .gt, .int a, .int b => .ok (.bl (decide (b < a))) s
  | .ge, .int a, .int b => .ok (.bl (decide (b ≤ a))) s
  | .eq, a, b => if flat a && flat b && decide (depth a ≤ 60) && decide (depth b ≤ 60) then .ok (.bl (eqv a b)) s else if lenNe a b then .ok (.bl false) s else .bad
  | .ne, a, b => if flat a && flat b && decide (depth a ≤ 60) && decide (depth b ≤ 60) then .ok (.bl (!eqv a b)) s else .bad
  | .isin, .str [c], .str b => .ok (.bl (b.contains c)) s
  | .notin, .str [c], .str b => .ok (.bl (!b.contains c)) s
  | .isin, a, .lst ds => if flat a && flatL ds && decide (depth a ≤ 60) && decide (depthL ds ≤ 60) then .ok (.bl (ds.any fun z => eqv z a)) s else .bad
  | .notin, a, .lst ds => if flat a && flatL ds && decide (depth a ≤ 60) && decide (depthL ds ≤ 60) then .ok (.bl (!ds.any fun z => eqv z a)) s else .bad
  | .isin, a, .tup ds => if flat a && flatL ds && decide (depth a ≤ 60) && decide (depthL ds ≤ 60) then .ok (.bl (ds.any fun z => eqv z a)) s else .bad
  | .notin, a, .tup ds => if flat a && flatL ds && decide (depth a ≤ 60) && decide (depthL ds ≤ 60) then .ok (.bl (!ds.any fun z => eqv z a)) s else .bad
  | .is_, a, .bl b => .ok (.bl (isB b a)) s
  | .isnot, a, .bl b => .ok (.bl (!isB b a)) s
  | .is_, a, .none => .ok (.bl (isN a)) s
  | .isnot, a, .none => .ok (.bl (!isN a)) s
  | _, _, _ => .bad

/-- types by number: 0 int, 1 bool, 2 str, 3 tuple, 4 list, 5 dict -/
def isT (s : St) (t : Nat) (d : D) : Bool :=
  match t, rd s d with
  | 0, .int _ => true | 0, .bl _ => true
  | 1, .bl _ => true
  | 2, .str _ => true
  | 3, .tup _ => true
  | 4, .lst _ => true | 4, .scr _ => true
  | 5, .dic _ _ => true
  | _, _ => false

def kindKnown (s : St) (d : D) : Bool :=
  match rd s d with
  | .ref _ => false | .fn _ => false | .ty _ => false | .set _ => false | .scr _ => false | .tab _ _ => false
  | _ => true

def ixN (n : Nat) (i : Int) : Option Nat := if 0 ≤ i then (if i < n then some i.toNat else Option.none) else if -(n : Int) ≤ i then some (i + n).toNat else Option.none
def atI {α : Type} (xs : List α) (i : Int) : Option α := (ixN xs.length i).bind fun j => xs[j]?
def sIx (n d : Nat) : Option Int → Nat
  | Option.none => d
  | some v => if v < 0 then (v + (n : Int)).toNat else min v.toNat n
def cut {α : Type} (xs : List α) (lo hi : Option Int) : List α := (xs.drop (sIx xs.length 0 lo)).take (sIx xs.length xs.length hi - sIx xs.length 0 lo)
def partR (nop : Bool) (d : D) (s : St) : R (Option Int) :=
  if nop then .ok Option.none s else match d with
  | .int i => .ok (some i) s
  | _ => .bad

def subD (x i : D) (s : St) : R D :=
  match rd s x, i with
  | .lst ds, .int i => (match atI ds i with | some d => .ok d s | Option.none => .bad)
  | .tup ds, .int i => (match atI ds i with | some d => .ok d s | Option.none => .bad)
  | .str z, .int i => if z.length ≤ sizeLine then (match atI z i with | some c => .ok (.str [c]) s | Option.none => .bad) else .bad
  | .scr ns, .int i => (match atI ns i with | some n => .ok (.int n) s | Option.none => .bad)
  | .tab ks vs, .str z => (match (ks.zip vs).lookup z with | some d => .ok d s | Option.none => .bad)
  | _, _ => .bad
def revD (x : D) (s : St) : R D :=
  match rd s x with
  | .lst ds => .ok (.lst ds.reverse) s
  | .tup ds => .ok (.tup ds.reverse) s
  | _ => .bad
def slD (t : Bool) (x : D) (l h : Option Int) (s : St) : R D :=
  match rd s x with
  | .lst ds => fin t (cut ds l h) s
  | .tup ds => .ok (.tup (cut ds l h)) s
  | .str z => if z.length ≤ sizeLine then .ok (.str (cut z l h)) s else .bad
  | _ => .bad

def bltD (b : Blt) (t : Bool) (xs : List D) (s : St) : R D :=
  match b, xs with
  | .isinst k, [d, .ty k'] => if k = k' ∧ kindKnown s d = true then .ok (.bl (isT s k d)) s else .bad
  | .len, [d] => (match rd s d with
    | .lst ds => .ok (.int ds.length) s
    | .tup ds => .ok (.int ds.length) s
    | .str z => if z.length ≤ sizeLine then .ok (.int z.length) s else .bad
    | .scr ns => .ok (.int ns.length) s
    | _ => .bad)
  | .all, [d] => (match rd s d with
    | .lst ds => (match mapB ds with | some bs => .ok (.bl (bs.all id)) s | Option.none => .bad)
    | _ => .bad)
  | .any, [d] => (match rd s d with
    | .lst ds => (match mapB ds with | some bs => .ok (.bl (bs.any id)) s | Option.none => .bad)
    | _ => .bad)
  | .min2, [.int i, .int j] => .ok (.int (if j < i then j else i)) s
  | .max2, [.int i, .int j] => .ok (.int (if j > i then j else i)) s
  | .abs, [.int i] => .ok (.int (if i < 0 then -i else i)) s
  | .int_, [.int i] => .ok (.int i) s
  | .int_, [.bl k] => .ok (.int (if k then 1 else 0)) s
  | .tuple_, [d] => (match rd s d with
    | .lst ds => .ok (.tup ds) s
    | .tup ds => .ok (.tup ds) s
    | _ => .bad)
  | .list_, [d] => (match rd s d with
    | .lst ds => fin t ds s
    | .tup ds => fin t ds s
    | _ => .bad)
  | _, _ => .bad

def recvOk (m : Mth) (x : D) (_ : St) : Bool :=
  match m, x with
  | .join, .str _ => true
  | _, _ => false
def joinT (a : List Nat) : List (List Nat) → List Nat
  | [] => []
  | [x] => x
  | x :: y :: r => x ++ a ++ joinT a (y :: r)
def lenSum (n : Nat) : List (List Nat) → Nat
  | [] => 0
  | x :: r => x.length + n + lenSum n r
def methD (m : Mth) (o : D) (xs : List D) (s : St) : R D :=
  match m, o, xs with
  | .join, .str a, [d] => (match rd s d with
    | .lst ds => (match strsOf ds with | some ys => if lenSum a.length ys ≤ 16777216 then .ok (.str (joinT a ys)) s else .bad | Option.none => .bad)
    | _ => .bad)
  | _, _, _ => .bad

/-- what a loop walks, of a value -/
def iterD : D → Option (List D)
  | .tup ds => some ds
  | .lst ds => some ds
  | .str z => if z.length ≤ sizeLine then some (z.map fun c => .str [c]) else Option.none
  | .scr ns => some (ns.map .int)
  | _ => Option.none
def far : Int := 4611686018427387904
def itK (k : ItK) (xs : List D) : Option (List D) :=
  match k, xs with
  | .val, [w] => iterD w
  | .range1, [.int n] => if -far ≤ n ∧ n ≤ sizeLine then some ((List.range n.toNat).map fun i : Nat => D.int i) else Option.none
  | .range2, [.int a, .int b] => if -far ≤ a ∧ a < far ∧ -far ≤ b ∧ b < far ∧ b - a ≤ sizeLine then some ((List.range (b - a).toNat).map fun i : Nat => D.int (a + i)) else Option.none
  | _, _ => Option.none

def setAll : List Nat → List D → Env → Option Env
  | [], [], env => some env
  | i :: is, d :: ds, env => setAll is ds (env.set i (some d))
  | _, _, _ => Option.none
def bindP : Pat → D → Env → Option Env
  | .s i, d, env => some (env.set i (some d))
  | .t is, .tup ds, env => setAll is ds env
  | .st is j, .tup ds, env => if is.length ≤ ds.length then setAll (is ++ [j]) (ds.take is.length ++ [.lst (ds.drop is.length)]) env else Option.none
  | _, _, _ => Option.none
def Pat.slots : Pat → List Nat
  | .s i => [i]
  | .t is => is
  | .st is j => is ++ [j]
def wipe (env : Env) : List Nat → Env
  | [] => env
  | i :: is => (wipe env is).set i Option.none

/-- nothing raised -/
def R.noErr {α : Type} : R α → R α
  | .err _ _ => .bad
  | r => r
@[simp] theorem R.noErr_ok {α : Type} (a : α) (s : St) : (R.ok a s).noErr = .ok a s := rfl
@[simp] theorem R.noErr_bad {α : Type} : (R.bad : R α).noErr = .bad := rfl
@[simp] theorem R.noErr_err {α : Type} (x : Ex) (s : St) : (R.err x s : R α).noErr = .bad := rfl
/-- the elements of a comprehension, one by one -/
def lcR (f : D → St → R (Option D)) : List D → List D → St → R D
  | [], acc, s => .ok (.lst acc) s
  | d :: ds, acc, s => (f d s).bind fun o s => match o with
    | some y => lcR f ds (acc ++ [y]) s
    | Option.none => lcR f ds acc s

def isNop : IE → Bool
  | .nop => true
  | _ => false
/-- the pairs of a dict's display -/
def pairsOf : List D → Option (List D × List D)
  | [] => some ([], [])
  | k :: v :: r => match pairsOf r with
    | some (ks, vs) => some (k :: ks, v :: vs)
    | Option.none => Option.none
  | _ => Option.none
def keyOk : D → Bool
  | .int _ => true | .str _ => true
  | _ => false
def asB {α : Type} (d : D) (s : St) (f : Bool → St → R α) : R α :=
  match d with
  | .bl b => f b s
  | _ => .bad

abbrev CF := Nat → List D → St → R D

mutual
def den (cf : CF) : IE → Env → St → R D
  | .nop, _, s => .ok .none s
  | .c d, _, s => .ok d s
  | .v i, env, s => match env[i]? with
    | some (some d) => .ok d s
    | _ => .bad
  | .bin o t a b, env, s => (den cf a env s).bind fun x s => (den cf b env s).bind fun y s => binD o t x y s
  | .neg a, env, s => (den cf a env s).bind fun x s => match x with
    | .int i => .ok (.int (-i)) s
    | _ => .bad
  | .cmp o a b, env, s => (den cf a env s).bind fun x s => (den cf b env s).bind fun y s => cmpD o x y s
  | .chain o1 o2 a b c, env, s => (den cf a env s).bind fun x s => (den cf b env s).bind fun y s => (cmpD o1 x y s).bind fun k s => asB k s fun k s =>
      if k then (den cf c env s).bind fun z s => cmpD o2 y z s else .ok (.bl false) s
  | .and a b, env, s => (den cf a env s).bind fun x s => asB x s fun k s => if k then den cf b env s else .ok (.bl false) s
  | .or a b, env, s => (den cf a env s).bind fun x s => asB x s fun k s => if k then .ok (.bl true) s else den cf b env s
  | .not a, env, s => (den cf a env s).bind fun x s => asB x s fun k s => .ok (.bl (!k)) s
  | .ite c a b, env, s => (den cf c env s).bind fun x s => asB x s fun k s => if k then den cf a env s else den cf b env s
  | .tup es, env, s => (denL cf es env s).bind fun xs s => .ok (.tup xs) s
  | .lst t es, env, s => (denL cf es env s).bind fun xs s => fin t xs s
  | .dic es, env, s => (denL cf es env s).bind fun xs s => match pairsOf xs with
    | some (ks, vs) => if ks.all keyOk then .ok (.dic ks vs) s else .bad
    | Option.none => .bad
  | .sub a i, env, s => (den cf a env s).bind fun x s => (den cf i env s).bind fun y s => subD x y s
  | .sl t a lo hi, env, s => (den cf a env s).bind fun x s => ((den cf lo env s).bind fun l s => partR (isNop lo) l s).bind fun l s => ((den cf hi env s).bind fun h s => partR (isNop hi) h s).bind fun h s => slD t x l h s
  | .call f es, env, s => (denL cf es env s).bind fun xs s => cf f xs s
  | .rev a, env, s => (den cf a env s).bind fun x s => revD x s
  | .callv i es, env, s => match env[i]? with
    | some (some (.fn f)) => (denL cf es env s).bind fun xs s => cf f xs s
    | _ => .bad
  | .blt b t es, env, s => (denL cf es env s).bind fun xs s => bltD b t xs s
  | .meth m o es, env, s => (den cf o env s).bind fun x s => if recvOk m x s then (denL cf es env s).bind fun xs s => methD m x xs s else .bad
  | .lc elt p k its cond, env, s => (denL cf its env s).bind fun ws s => match itK k ws with
    | Option.none => .bad
    | some items => lcR (fun d s => match bindP p d (wipe env p.slots) with
        | Option.none => .bad
        | some env1 => (den cf cond env1 s).noErr.bind fun c s => asB c s fun k s => if k then (den cf elt env1 s).noErr.bind fun y s => .ok (some y) s else .ok Option.none s) items [] s
def denL (cf : CF) : List IE → Env → St → R (List D)
  | [], _, s => .ok [] s
  | e :: es, env, s => (den cf e env s).bind fun x s => (denL cf es env s).bind fun xs s => .ok (x :: xs) s
end

inductive Fl where
  | nx (env : Env) | rt (d : D) | bk (env : Env) | ct (env : Env)
inductive RS where
  | ok (f : Fl) (s : St) | err (x : Ex) (env : Env) (s : St) | bad
def R.toS {α : Type} (r : R α) (env : Env) (f : α → St → RS) : RS :=
  match r with
  | .ok a s => f a s
  | .err x s => .err x env s
  | .bad => .bad
def asBS (d : D) (s : St) (f : Bool → St → RS) : RS :=
  match d with
  | .bl b => f b s
  | _ => .bad
def RS.seq : RS → (Env → St → RS) → RS
  | .ok (.nx env) s, f => f env s
  | .ok fl s, _ => .ok fl s
  | .err x env s, _ => .err x env s
  | .bad, _ => .bad

def forR (p : Pat) (body : Env → St → RS) : List D → Env → St → RS
  | [], env, s => .ok (.nx env) s
  | d :: ds, env, s => match bindP p d env with
    | Option.none => .bad
    | some env1 => match body env1 s with
      | .ok (.nx e) s => forR p body ds e s
      | .ok (.ct e) s => forR p body ds e s
      | .ok (.bk e) s => .ok (.nx e) s
      | .ok (.rt d) s => .ok (.rt d) s
      | .err x e s => .err x e s
      | .bad => .bad

def setAt (o i x : D) (env : Env) (s : St) : RS :=
  match o, i with
  | .ref r, .int k => (match s[r]? with
    | some (.lst ds) => (match ixN ds.length k with
      | some j => if x.pure then .ok (.nx env) (s.set r (.lst (ds.set j x))) else .bad
      | Option.none => .bad)
    | _ => .bad)
  | _, _ => .bad
def freeze (i : Nat) (env : Env) (s : St) : RS :=
  match env[i]? with
  | some (some (.ref r)) => (match s[r]? with
    | some (.lst ds) => .ok (.nx (env.set i (some (.lst ds)))) (s.set r .gone)
    | _ => .bad)
  | _ => .bad

def suV (c : Nat) : SuE → D
  | .k d => d
  | .isx _ m => .bl (m.contains c)
def RS.caught (m : List Nat) (es : List SuE) : RS → RS
  | .err x env s => if m.contains x.cls then (match x.arg with
      | Option.none => .ok (.rt (.lst (es.map (suV x.cls)))) s
      | some _ => .bad) else .err x env s
  | r => r

mutual
def exS (cf : CF) : IS → Env → St → RS
  | .expr e, env, s => (den cf e env s).toS env fun _ s => .ok (.nx env) s
  | .set p e, env, s => (den cf e env s).toS env fun d s => match bindP p d env with
    | some env1 => .ok (.nx env1) s
    | Option.none => .bad
  | .setSub o i e, env, s => (den cf e env s).toS env fun x s => (den cf o env s).toS env fun o s => (den cf i env s).toS env fun i s => setAt o i x env s
  | .fz i, env, s => freeze i env s
  | .ife c a b, env, s => (den cf c env s).toS env fun d s => asBS d s fun k s => if k then exB cf a env s else exB cf b env s
  | .forr p k its body, env, s => (denL cf its env s).toS env fun ws s => match itK k ws with
    | Option.none => .bad
    | some items => forR p (fun env s => exB cf body env s) items env s
  | .ret e, env, s => (den cf e env s).toS env fun d s => .ok (.rt d) s
  | .pass, env, s => .ok (.nx env) s
  | .raise c, env, s => .err ⟨c, Option.none⟩ env s
  | .tryR body m _ _ es, env, s => (exB cf body env s).caught m es
def exB (cf : CF) : List IS → Env → St → RS
  | [], env, s => .ok (.nx env) s
  | t :: ts, env, s => (exS cf t env s).seq fun env s => exB cf ts env s
end

structure Fn where
  np : Nat
  ns : Nat
  body : List IS
def start (fn : Fn) (args : List D) : Env := args.map some ++ List.replicate (fn.ns - fn.np) Option.none
def back (s : St) : RS → R D
  | .ok (.rt d) s' => .ok d (s'.take (max s.length d.top))
  | .ok (.nx _) s' => .ok .none (s'.take s.length)
  | .err x _ s' => .err x (s'.take (max s.length (match x.arg with | some a => a.top | Option.none => 0)))
  | _ => .bad
def callF (P : List Fn) : Nat → CF
  | 0, _, _, _ => .bad
  | n + 1, f, args, s => match P[f]? with
    | some fn => if args.length = fn.np then back s (exB (callF P n) fn.body (start fn args) s) else .bad
    | Option.none => .bad
end Fk

set_option Elab.async false
set_option linter.all false
set_option autoImplicit false
set_option maxRecDepth 100000
set_option maxHeartbeats 4000000
/-! FkRel: how data stand in the abstract heap. -/
namespace L3
open PySem PySem.Spec PyProof.Rows L2 Fk

/-- what hangs on the program: the written part, the module's names, the defs by number -/
structure G where
  K : PySem.W.Frag
  mg : PySem.Str → Option Value
  fns : List PySem.Str
  excs : List PySem.Str
  w : World

/-- where the store's objects stand (o); what is in the making, and known to nobody (p) -/
structure Phi where
  o : List (Option Addr)
  p : List Addr
def Live (φ : Phi) (a : Addr) : Prop := (∃ j : Nat, φ.o[j]? = some (some a)) ∨ a ∈ φ.p
def strV (s : List Nat) : PySem.Str := ⟨s.toArray⟩
def tyName : Nat → String
  | 0 => "int" | 1 => "bool" | 2 => "str" | 3 => "tuple" | 4 => "list" | 5 => "dict" | _ => "object"
/-- a tuple that stands: of the written part, or tracked and not live -/
def TupAt (g : G) (H : Hp) (φ : Phi) (a : Addr) (vs : List V) : Prop :=
  (∃ (o : Obj) (its : Array Value) (n : Nat), g.K.lookup a = some o ∧ o.cls = .type "tuple" ∧ o.data = .seq its n ∧ its.size ≤ PySem.sizeLine ∧ Vals vs its.toList) ∨ (¬ Live φ a ∧ H a = some (.tup vs))
theorem TupAt.sq {g : G} {H : Hp} {φ : Phi} {a : Addr} {vs : List V} (h : TupAt g H φ a vs) : SqT g.K H a vs := by
  rcases h with h | ⟨_, h⟩
  · exact .inr h
  · exact SqT.of h
/-- the script -/
def ScrAt (g : G) (H : Hp) (φ : Phi) (a : Addr) (vs : List V) : Prop :=
  (∃ (o : Obj) (its : Array Value) (n : Nat), g.K.lookup a = some o ∧ o.cls = .type "list" ∧ o.dict = none ∧ o.data = .seq its n ∧ its.size ≤ PySem.sizeLine ∧ Vals vs its.toList) ∨ (¬ Live φ a ∧ Rd H a (.lst vs))
theorem ScrAt.sq {g : G} {H : Hp} {φ : Phi} {a : Addr} {vs : List V} (h : ScrAt g H φ a vs) : SqL g.K H a vs := by
  rcases h with h | ⟨_, h⟩
  · exact .inr h
  · exact .inl h

/-- a table of the text, its keys texts -/
def TabAt (g : G) (a : Addr) (ks : List (List Nat)) (us : List V) : Prop :=
  (∃ (es : Array DictEntry) (n : Nat), g.K.lookup a = some ⟨.type "dict", none, .dict es n, #[]⟩ ∧ PySem.W.KeysLit g.w.params es.toList) ∧
    ∀ (i : Nat) (k : List Nat) (v : V), ks[i]? = some k → us[i]? = some v → ∃ u, PySem.W.nsIn g.K a (strV k) = some (some u) ∧ RelV v u
mutual
def RepV (g : G) (H : Hp) (φ : Phi) : D → V → Prop
  | .none, v => v = .non
  | .bl b, v => v = .bl b
  | .int i, v => v = .int i
  | .str s, v => v = .str (strV s)
  | .tup ds, v => ∃ a vs, v = .ref a ∧ TupAt g H φ a vs ∧ RepL g H φ ds vs ∧ vs.length ≤ PySem.sizeLine
  | .lst ds, v => ∃ a vs, v = .ref a ∧ ¬ Live φ a ∧ H a = some (.lst vs) ∧ RepL g H φ ds vs ∧ vs.length ≤ PySem.sizeLine
  | .dic _ _, v => ∃ a kvs, v = .ref a ∧ ¬ Live φ a ∧ H a = some (.dK kvs)
  | .set _, _ => False
  | .scr ns, v => ∃ a, v = .ref a ∧ ScrAt g H φ a (ns.map V.int) ∧ ns.length ≤ PySem.sizeLine
  | .ref i, v => i < φ.o.length ∧ (∃ a, v = .ref a) ∧ ∀ a, φ.o[i]? = some (some a) → v = .ref a
  | .fn f, v => ∃ x a, g.fns[f]? = some x ∧ g.mg x = some (.ref a) ∧ v = .ref a
  | .ty t, v => v = .ty (tyName t)
  | .tab ks ds, v => ∃ a us, v = .ref a ∧ TabAt g a ks us ∧ RepL g H φ ds us ∧ ks.length = us.length
def RepL (g : G) (H : Hp) (φ : Phi) : List D → List V → Prop
  | [], vs => vs = []
  | d :: ds, vs => ∃ v r, vs = v :: r ∧ RepV g H φ d v ∧ RepL g H φ ds r
end

/-- from (H, φ) on to (H', φ') -/
structure Ext (H : Hp) (φ : Phi) (H' : Hp) (φ' : Phi) : Prop where
  len : φ.o.length ≤ φ'.o.length
  old : ∀ (j : Nat) (a : Addr), j < φ.o.length → φ'.o[j]? = some (some a) → φ.o[j]? = some (some a)
  lv : ∀ a : Addr, Live φ' a → Live φ a ∨ H a = none
  keep : ∀ (a : Addr) (o : HO), ¬ Live φ a ∨ a ∈ φ.p → H a = some o → H' a = some o
  dom : ∀ (a : Addr) (o : HO), H a = some o → ∃ o', H' a = some o'
  sub : ∀ a ∈ φ.p, a ∈ φ'.p
theorem Ext.refl {H : Hp} {φ : Phi} : Ext H φ H φ := ⟨Nat.le_refl _, fun _ _ _ h => h, fun _ h => .inl h, fun _ _ _ h => h, fun _ o h => ⟨o, h⟩, fun _ h => h⟩
theorem Ext.live {H H' : Hp} {φ φ' : Phi} (x : Ext H φ H' φ') {a : Addr} {o : HO} (n : ¬ Live φ a) (h : H a = some o) : ¬ Live φ' a := fun l => by
  rcases x.lv a l with q | q
  · exact n q
  · rw [h] at q; cases q
theorem Ext.back {H H' : Hp} {φ φ' : Phi} (x : Ext H φ H' φ') {a : Addr} (h : H' a = none) : H a = none := by
  cases q : H a with
  | none => rfl
  | some o =>
    obtain ⟨o', q'⟩ := x.dom a o q
    rw [h] at q'; cases q'
theorem Ext.trans {H H1 H2 : Hp} {φ φ1 φ2 : Phi} (a : Ext H φ H1 φ1) (b : Ext H1 φ1 H2 φ2) : Ext H φ H2 φ2 where
  len := Nat.le_trans a.len b.len
  old := fun j x hj h => a.old j x hj (b.old j x (Nat.lt_of_lt_of_le hj a.len) h)
  lv := fun x l => by
    rcases b.lv x l with q | q
    · exact a.lv x q
    · exact .inr (a.back q)
  keep := fun x o n h => by
    have h1 := a.keep x o n h
    rcases n with n | n
    · exact b.keep x o (.inl (a.live n h)) h1
    · exact b.keep x o (.inr (a.sub x n)) h1
  dom := fun x o h => let ⟨_, h'⟩ := a.dom x o h; b.dom x _ h'
  sub := fun x h => b.sub x (a.sub x h)

section
variable {g : G} {H H' : Hp} {φ φ' : Phi}
/-- what a value's standing leans on -/
structure Bears (H : Hp) (φ : Phi) (H' : Hp) (φ' : Phi) : Prop where
  keep : ∀ (a : Addr) (o : HO), ¬ Live φ a → H a = some o → H' a = some o ∧ ¬ Live φ' a
  len : φ.o.length ≤ φ'.o.length
  old : ∀ (j : Nat) (a : Addr), j < φ.o.length → φ'.o[j]? = some (some a) → φ.o[j]? = some (some a)
theorem Ext.bears (x : Ext H φ H' φ') : Bears H φ H' φ' := ⟨fun a o n h => ⟨x.keep a o (.inl n) h, x.live n h⟩, x.len, x.old⟩
theorem TupAt.bear (x : Bears H φ H' φ') {a : Addr} {vs : List V} (h : TupAt g H φ a vs) : TupAt g H' φ' a vs := by
  rcases h with h | ⟨n, h⟩
  · exact .inl h
  · exact .inr ⟨(x.keep a _ n h).2, (x.keep a _ n h).1⟩
theorem ScrAt.bear (x : Bears H φ H' φ') {a : Addr} {vs : List V} (h : ScrAt g H φ a vs) : ScrAt g H' φ' a vs := by
  rcases h with h | ⟨n, h⟩
  · exact .inl h
  · rcases h with h | ⟨o, h⟩
    · exact .inr ⟨(x.keep a _ n h).2, .inl (x.keep a _ n h).1⟩
    · exact .inr ⟨(x.keep a _ n h).2, .inr ⟨o, (x.keep a _ n h).1⟩⟩
theorem TupAt.ext (x : Ext H φ H' φ') {a : Addr} {vs : List V} (h : TupAt g H φ a vs) : TupAt g H' φ' a vs := h.bear x.bears
theorem ScrAt.ext (x : Ext H φ H' φ') {a : Addr} {vs : List V} (h : ScrAt g H φ a vs) : ScrAt g H' φ' a vs := h.bear x.bears
mutual
theorem RepV.bear (x : Bears H φ H' φ') : ∀ (d : D) {v : V}, RepV g H φ d v → RepV g H' φ' d v
  | .none, _, h => h
  | .bl _, _, h => h
  | .int _, _, h => h
  | .str _, _, h => h
  | .ty _, _, h => h
  | .fn _, _, h => h
  | .set _, _, h => by unfold RepV at h; exact h.elim
  | .tup ds, _, h => by
    unfold RepV at h ⊢
    obtain ⟨a, vs, e, t, r, z⟩ := h
    exact ⟨a, vs, e, t.bear x, RepL.bear x ds r, z⟩
  | .lst ds, _, h => by
    unfold RepV at h ⊢
    obtain ⟨a, vs, e, n, t, r, z⟩ := h
    exact ⟨a, vs, e, (x.keep a _ n t).2, (x.keep a _ n t).1, RepL.bear x ds r, z⟩
  | .dic ks vs, _, h => by
    unfold RepV at h ⊢
    obtain ⟨a, kvs, e, n, t⟩ := h
    exact ⟨a, kvs, e, (x.keep a _ n t).2, (x.keep a _ n t).1⟩
  | .scr ns, _, h => by
    unfold RepV at h ⊢
    obtain ⟨a, e, t, z⟩ := h
    exact ⟨a, e, t.bear x, z⟩
  | .ref i, _, h => by
    unfold RepV at h ⊢
    obtain ⟨l, e, t⟩ := h
    exact ⟨Nat.lt_of_lt_of_le l x.len, e, fun a ha => t a (x.old i a l ha)⟩
  | .tab ks ds, _, h => by
    unfold RepV at h ⊢
    obtain ⟨a, us, e, t, r, z⟩ := h
    exact ⟨a, us, e, t, RepL.bear x ds r, z⟩
theorem RepL.bear (x : Bears H φ H' φ') : ∀ (ds : List D) {vs : List V}, RepL g H φ ds vs → RepL g H' φ' ds vs
  | [], _, h => h
  | d :: ds, _, h => by
    unfold RepL at h ⊢
    obtain ⟨v, r, e, h1, h2⟩ := h
    exact ⟨v, r, e, RepV.bear x d h1, RepL.bear x ds h2⟩
end
theorem RepV.ext (x : Ext H φ H' φ') (d : D) {v : V} (h : RepV g H φ d v) : RepV g H' φ' d v := RepV.bear x.bears d h
theorem RepL.ext (x : Ext H φ H' φ') (ds : List D) {vs : List V} (h : RepL g H φ ds vs) : RepL g H' φ' ds vs := RepL.bear x.bears ds h
def Phi.cut (φ : Phi) (k : Nat) : Phi := ⟨φ.o.take k, φ.p⟩
def Phi.add (φ : Phi) (a : Addr) : Phi := ⟨φ.o ++ [some a], φ.p⟩
def Phi.fz (φ : Phi) (i : Nat) : Phi := ⟨φ.o.set i Option.none, φ.p⟩
def Phi.hide (φ : Phi) (a : Addr) : Phi := ⟨φ.o, a :: φ.p⟩
theorem live_cut {k : Nat} {a : Addr} (l : Live (φ.cut k) a) : Live φ a := by
  rcases l with ⟨j, hj⟩ | l
  · refine .inl ⟨j, ?_⟩
    unfold Phi.cut at hj
    simp only [List.getElem?_take] at hj
    split at hj <;> simp_all
  · exact .inr l
mutual
/-- the store is cut above all that is named -/
theorem RepV.take {k : Nat} : ∀ (d : D) {v : V}, RepV g H φ d v → d.top ≤ k → RepV g H (φ.cut k) d v
  | .none, _, h, _ => h
  | .bl _, _, h, _ => h
  | .int _, _, h, _ => h
  | .str _, _, h, _ => h
  | .ty _, _, h, _ => h
  | .fn _, _, h, _ => h
  | .set _, _, h, _ => by unfold RepV at h; exact h.elim
  | .tup ds, _, h, t => by
    unfold RepV at h ⊢
    obtain ⟨a, vs, e, q, r, z⟩ := h
    refine ⟨a, vs, e, ?_, RepL.take ds r (by unfold D.top at t; exact t), z⟩
    rcases q with q | ⟨n, q⟩
    · exact .inl q
    · exact .inr ⟨fun l => n (live_cut l), q⟩
  | .lst ds, _, h, t => by
    unfold RepV at h ⊢
    obtain ⟨a, vs, e, n, q, r, z⟩ := h
    exact ⟨a, vs, e, fun l => n (live_cut l), q, RepL.take ds r (by unfold D.top at t; exact t), z⟩
  | .dic ks vs, _, h, _ => by
    unfold RepV at h ⊢
    obtain ⟨a, kvs, e, n, q⟩ := h
    exact ⟨a, kvs, e, fun l => n (live_cut l), q⟩
  | .scr ns, _, h, _ => by
    unfold RepV at h ⊢
    obtain ⟨a, e, q, z⟩ := h
    refine ⟨a, e, ?_, z⟩
    rcases q with q | ⟨n, q⟩
    · exact .inl q
    · exact .inr ⟨fun l => n (live_cut l), q⟩
  | .ref i, _, h, t => by
    unfold RepV at h ⊢
    obtain ⟨l, e, q⟩ := h
    unfold D.top at t
    refine ⟨by show i < (φ.o.take k).length; rw [List.length_take]; omega, e, fun a ha => q a ?_⟩
    have ha' : (φ.o.take k)[i]? = some (some a) := ha
    rw [List.getElem?_take] at ha'
    split at ha' <;> simp_all
  | .tab ks ds, _, h, t => by
    unfold RepV at h ⊢
    obtain ⟨a, us, e, q, r, z⟩ := h
    exact ⟨a, us, e, q, RepL.take ds r (by unfold D.top at t; exact t), z⟩
theorem RepL.take {k : Nat} : ∀ (ds : List D) {vs : List V}, RepL g H φ ds vs → D.topL ds ≤ k → RepL g H (φ.cut k) ds vs
  | [], _, h, _ => h
  | d :: ds, _, h, t => by
    unfold RepL at h ⊢
    obtain ⟨v, r, e, h1, h2⟩ := h
    unfold D.topL at t
    exact ⟨v, r, e, RepV.take d h1 (by omega), RepL.take ds h2 (by omega)⟩
end
theorem RepL.length : ∀ {ds : List D} {vs : List V}, RepL g H φ ds vs → ds.length = vs.length
  | [], _, h => by unfold RepL at h; subst h; rfl
  | d :: ds, _, h => by
    unfold RepL at h
    obtain ⟨v, r, rfl, _, h2⟩ := h
    have := RepL.length h2
    simp [this]
theorem RepL.get : ∀ {ds : List D} {vs : List V} {i : Nat} {d : D}, RepL g H φ ds vs → ds[i]? = some d → ∃ v, vs[i]? = some v ∧ RepV g H φ d v
  | [], _, _, _, _, e => by simp at e
  | d :: ds, _, i, x, h, e => by
    unfold RepL at h
    obtain ⟨v, r, rfl, h1, h2⟩ := h
    cases i with
    | zero => simp at e; subst e; exact ⟨v, rfl, h1⟩
    | succ i =>
      obtain ⟨u, hu, q⟩ := RepL.get (i := i) h2 (by simpa using e)
      exact ⟨u, by simpa using hu, q⟩
theorem RepL.append : ∀ {ds es : List D} {vs us : List V}, RepL g H φ ds vs → RepL g H φ es us → RepL g H φ (ds ++ es) (vs ++ us)
  | [], _, _, _, h, q => by unfold RepL at h; subst h; exact q
  | d :: ds, _, _, _, h, q => by
    unfold RepL at h
    obtain ⟨v, r, rfl, h1, h2⟩ := h
    show RepL g H φ (d :: (ds ++ _)) (v :: (r ++ _))
    unfold RepL
    exact ⟨v, _, rfl, h1, RepL.append h2 q⟩
theorem RepL.set : ∀ {ds : List D} {vs : List V} (i : Nat) {d : D} {v : V}, RepL g H φ ds vs → RepV g H φ d v → RepL g H φ (ds.set i d) (vs.set i v)
  | [], _, _, _, _, h, _ => by unfold RepL at h; subst h; simp [RepL]
  | x :: ds, _, i, d, v, h, q => by
    unfold RepL at h
    obtain ⟨u, r, rfl, h1, h2⟩ := h
    cases i with
    | zero => simp only [List.set_cons_zero]; unfold RepL; exact ⟨v, r, rfl, q, h2⟩
    | succ i => simp only [List.set_cons_succ]; unfold RepL; exact ⟨u, _, rfl, h1, RepL.set i h2 q⟩
theorem RepL.takeN : ∀ {ds : List D} {vs : List V} (n : Nat), RepL g H φ ds vs → RepL g H φ (ds.take n) (vs.take n)
  | _, _, 0, _ => by simp [RepL]
  | [], _, n + 1, h => by unfold RepL at h; subst h; simp [RepL]
  | d :: ds, _, n + 1, h => by
    unfold RepL at h
    obtain ⟨v, r, rfl, h1, h2⟩ := h
    simp only [List.take_succ_cons]
    unfold RepL
    exact ⟨v, _, rfl, h1, RepL.takeN n h2⟩
theorem RepL.dropN : ∀ {ds : List D} {vs : List V} (n : Nat), RepL g H φ ds vs → RepL g H φ (ds.drop n) (vs.drop n)
  | _, _, 0, h => by simpa using h
  | [], _, n + 1, h => by unfold RepL at h; subst h; simp [RepL]
  | d :: ds, _, n + 1, h => by
    unfold RepL at h
    obtain ⟨v, r, rfl, h1, h2⟩ := h
    simp only [List.drop_succ_cons]
    exact RepL.dropN n h2
mutual
/-- what holds no reference hangs on no live object -/
theorem RepV.phi {φ2 : Phi} (hl : ∀ a, Live φ2 a → Live φ a) : ∀ (d : D) {v : V}, RepV g H φ d v → d.pure = true → RepV g H φ2 d v
  | .none, _, h, _ => h
  | .bl _, _, h, _ => h
  | .int _, _, h, _ => h
  | .str _, _, h, _ => h
  | .ty _, _, h, _ => h
  | .fn _, _, h, _ => h
  | .set _, _, h, _ => by unfold RepV at h; exact h.elim
  | .tup ds, _, h, p => by
    unfold RepV at h ⊢
    obtain ⟨a, vs, e, q, r, z⟩ := h
    refine ⟨a, vs, e, ?_, RepL.phi hl ds r (by unfold D.pure at p; exact p), z⟩
    rcases q with q | ⟨n, q⟩
    · exact .inl q
    · exact .inr ⟨fun z => n (hl a z), q⟩
  | .lst ds, _, h, p => by
    unfold RepV at h ⊢
    obtain ⟨a, vs, e, n, q, r, z⟩ := h
    exact ⟨a, vs, e, fun z => n (hl a z), q, RepL.phi hl ds r (by unfold D.pure at p; exact p), z⟩
  | .dic ks vs, _, h, _ => by
    unfold RepV at h ⊢
    obtain ⟨a, kvs, e, n, q⟩ := h
    exact ⟨a, kvs, e, fun z => n (hl a z), q⟩
  | .scr ns, _, h, _ => by
    unfold RepV at h ⊢
    obtain ⟨a, e, q, z⟩ := h
    refine ⟨a, e, ?_, z⟩
    rcases q with q | ⟨n, q⟩
    · exact .inl q
    · exact .inr ⟨fun z => n (hl a z), q⟩
  | .ref i, _, _, p => by unfold D.pure at p; cases p
  | .tab ks ds, _, h, p => by
    unfold RepV at h ⊢
    obtain ⟨a, us, e, q, r, z⟩ := h
    exact ⟨a, us, e, q, RepL.phi hl ds r (by unfold D.pure at p; exact p), z⟩
theorem RepL.phi {φ2 : Phi} (hl : ∀ a, Live φ2 a → Live φ a) : ∀ (ds : List D) {vs : List V}, RepL g H φ ds vs → D.pureL ds = true → RepL g H φ2 ds vs
  | [], _, h, _ => h
  | d :: ds, _, h, p => by
    unfold RepL at h ⊢
    obtain ⟨v, r, e, h1, h2⟩ := h
    unfold D.pureL at p
    rw [Bool.and_eq_true] at p
    exact ⟨v, r, e, RepV.phi hl d h1 p.1, RepL.phi hl ds h2 p.2⟩
end

/-! ### the store -/
structure Rep (g : G) (H : Hp) (φ : Phi) (s : Fk.St) : Prop where
  len : φ.o.length = s.length
  gone : ∀ i : Nat, s[i]? = some O.gone → φ.o[i]? = some none
  lst : ∀ (i : Nat) (ds : List D), s[i]? = some (.lst ds) → ∃ a vs, φ.o[i]? = some (some a) ∧ H a = some (.lst vs) ∧ RepL g H φ ds vs ∧ D.pureL ds = true ∧ vs.length ≤ PySem.sizeLine
  dic : ∀ (i : Nat) (ks vs : List D), s[i]? = some (.dic ks vs) → False
  inj : ∀ (i j : Nat) (a : Addr), φ.o[i]? = some (some a) → φ.o[j]? = some (some a) → i = j
  priv : ∀ a ∈ φ.p, ∃ o, H a = some o
  sep : ∀ (i : Nat) (a : Addr), φ.o[i]? = some (some a) → a ∉ φ.p
theorem Rep.there {s : Fk.St} (r : Rep g H φ s) {i : Nat} {a : Addr} (hi : φ.o[i]? = some (some a)) : ∃ (ds : List D) (vs : List V), s[i]? = some (O.lst ds) ∧ H a = some (.lst vs) ∧ RepL g H φ ds vs := by
  have hl : i < s.length := by
    rw [← r.len]
    exact (List.getElem?_eq_some_iff.mp hi).1
  cases q : s[i]? with
  | none => rw [List.getElem?_eq_none_iff] at q; omega
  | some o =>
    cases o with
    | gone => have := r.gone i q; rw [hi] at this; cases this
    | lst ds =>
      obtain ⟨b, vs, h1, h2, h3, _⟩ := r.lst i ds q
      rw [hi] at h1; cases h1
      exact ⟨ds, vs, rfl, h2, h3⟩
    | dic ks vs => exact (r.dic i ks vs q).elim
theorem Rep.notLive {s : Fk.St} (r : Rep g H φ s) {a : Addr} (h : H a = none) : ¬ Live φ a := by
  rintro (⟨i, hi⟩ | l)
  · obtain ⟨_, _, _, q, _⟩ := r.there hi
    rw [h] at q; cases q
  · obtain ⟨o, q⟩ := r.priv a l
    rw [h] at q; cases q
/-- as it is, upon what bears it -/
theorem Rep.bear {s : Fk.St} (r : Rep g H φ s) (x : Bears H φ H' φ') (ho : φ'.o = φ.o) (hp : ∀ a ∈ φ'.p, (a ∈ φ.p ∨ H a = none) ∧ ∃ o, H' a = some o) (k : ∀ (i : Nat) (a : Addr) (o : HO), φ.o[i]? = some (some a) → H a = some o → H' a = some o) : Rep g H' φ' s where
  len := by rw [ho]; exact r.len
  gone := by rw [ho]; exact r.gone
  lst := fun i ds q => by
    obtain ⟨a, vs, h1, h2, h3, h4⟩ := r.lst i ds q
    exact ⟨a, vs, by rw [ho]; exact h1, k i a _ h1 h2, RepL.bear x ds h3, h4⟩
  dic := r.dic
  inj := by rw [ho]; exact r.inj
  priv := fun a h => (hp a h).2
  sep := fun i a h z => by
    rw [ho] at h
    rcases (hp a z).1 with q | q
    · exact r.sep i a h q
    · obtain ⟨_, _, _, q', _⟩ := r.there h
      rw [q] at q'; cases q'
/-- a new object, not of the store -/
theorem Ext.new_ {s : Fk.St} (r : Rep g H φ s) {p : Addr} (h : H p = none) (o : HO) : Ext H φ (upd H p o) φ where
  len := Nat.le_refl _
  old := fun _ _ _ q => q
  lv := fun _ q => .inl q
  keep := fun a u _ q => by rw [upd_ne (ne_of_none q h)]; exact q
  dom := fun a u q => ⟨u, by rw [upd_ne (ne_of_none q h)]; exact q⟩
  sub := fun _ q => q
theorem Rep.new_ {s : Fk.St} (r : Rep g H φ s) {p : Addr} (h : H p = none) (o : HO) : Rep g (upd H p o) φ s :=
  r.bear (Ext.new_ r h o).bears rfl (fun a q => ⟨.inl q, let ⟨u, z⟩ := r.priv a q; (Ext.new_ r h o).dom a u z⟩) fun i a u _ q => by rw [upd_ne (ne_of_none q h)]; exact q
theorem snoc_get {α : Type} {l : List (Option α)} {b : α} {j : Nat} {a : α} (h : (l ++ [some b])[j]? = some (some a)) : (j < l.length ∧ l[j]? = some (some a)) ∨ (j = l.length ∧ a = b) := by
  by_cases hj : j < l.length
  · rw [List.getElem?_append_left hj] at h; exact .inl ⟨hj, h⟩
  · rw [List.getElem?_append_right (by omega)] at h
    cases q : j - l.length with
    | zero => rw [q] at h; simp at h; exact .inr ⟨by omega, h.symm⟩
    | succ n => rw [q] at h; simp at h
/-- a new object of the store -/
theorem Ext.alloc {s : Fk.St} (r : Rep g H φ s) {p : Addr} (h : H p = none) (o : HO) : Ext H φ (upd H p o) (φ.add p) where
  len := by simp [Phi.add]
  old := fun j a hj q => by
    have q' : (φ.o ++ [some p])[j]? = some (some a) := q
    rw [List.getElem?_append_left hj] at q'; exact q'
  lv := fun a l => by
    rcases l with ⟨j, hj⟩ | l
    · rcases snoc_get hj with ⟨_, q⟩ | ⟨_, q⟩
      · exact .inl (.inl ⟨j, q⟩)
      · subst q; exact .inr h
    · exact .inl (.inr l)
  keep := fun a u _ q => by rw [upd_ne (ne_of_none q h)]; exact q
  dom := fun a u q => ⟨u, by rw [upd_ne (ne_of_none q h)]; exact q⟩
  sub := fun _ q => q
theorem Rep.alloc {s : Fk.St} (r : Rep g H φ s) {p : Addr} (h : H p = none) {ds : List D} {vs : List V} (q : RepL g H φ ds vs) (hp : D.pureL ds = true) (hz : vs.length ≤ PySem.sizeLine) : Rep g (upd H p (.lst vs)) (φ.add p) (s ++ [.lst ds]) := by
  have x := Ext.alloc r h (.lst vs)
  have nl := r.notLive h
  have g1 : ∀ i : Nat, i < s.length → (φ.add p).o[i]? = φ.o[i]? := fun i hi => by
    show (φ.o ++ [some p])[i]? = _
    rw [List.getElem?_append_left (by rw [r.len]; exact hi)]
  refine ⟨by simp [Phi.add, r.len], fun i e => ?_, fun i es e => ?_, fun i ks us e => ?_, fun i j a e1 e2 => ?_, fun a l => ?_, fun i a e l => ?_⟩
  · by_cases hi : i < s.length
    · rw [List.getElem?_append_left hi] at e
      rw [g1 i hi]
      exact r.gone i e
    · rw [List.getElem?_append_right (by omega)] at e
      cases z : i - s.length with
      | zero => rw [z] at e; simp at e
      | succ n => rw [z] at e; simp at e
  · by_cases hi : i < s.length
    · rw [List.getElem?_append_left hi] at e
      obtain ⟨a, us, h1, h2, h3, h4⟩ := r.lst i es e
      refine ⟨a, us, by rw [g1 i hi]; exact h1, ?_, RepL.ext x es h3, h4⟩
      rw [upd_ne (ne_of_none h2 h)]; exact h2
    · rw [List.getElem?_append_right (by omega)] at e
      cases z : i - s.length with
      | zero =>
        rw [z] at e; simp at e; subst e
        refine ⟨p, vs, ?_, upd_same, RepL.ext x _ q, hp, hz⟩
        show (φ.o ++ [some p])[i]? = _
        rw [List.getElem?_append_right (by rw [r.len]; omega), r.len, z]; rfl
      | succ n => rw [z] at e; simp at e
  · by_cases hi : i < s.length
    · rw [List.getElem?_append_left hi] at e
      exact r.dic i ks us e
    · rw [List.getElem?_append_right (by omega)] at e
      cases z : i - s.length with
      | zero => rw [z] at e; simp at e
      | succ n => rw [z] at e; simp at e
  · rcases snoc_get e1 with ⟨_, a1⟩ | ⟨a1, b1⟩
    · rcases snoc_get e2 with ⟨_, a2⟩ | ⟨a2, b2⟩
      · exact r.inj i j a a1 a2
      · subst b2; exact absurd (.inl ⟨i, a1⟩) nl
    · rcases snoc_get e2 with ⟨_, a2⟩ | ⟨a2, b2⟩
      · subst b1; exact absurd (.inl ⟨j, a2⟩) nl
      · omega
  · obtain ⟨o, z⟩ := r.priv a l
    exact x.dom a o z
  · rcases snoc_get e with ⟨_, a1⟩ | ⟨a1, b1⟩
    · exact r.sep i a a1 l
    · subst b1; exact nl (.inr l)
/-- an object of the store is written -/
theorem Ext.write {s : Fk.St} (r : Rep g H φ s) {i : Nat} {a : Addr} {o : HO} (h : φ.o[i]? = some (some a)) : Ext H φ (upd H a o) φ where
  len := Nat.le_refl _
  old := fun _ _ _ q => q
  lv := fun _ q => .inl q
  keep := fun b u n q => by
    have : b ≠ a := by
      rintro rfl
      rcases n with n | n
      · exact n (.inl ⟨i, h⟩)
      · exact r.sep i b h n
    rw [upd_ne this]; exact q
  dom := fun b u q => by
    by_cases e : b = a
    · exact ⟨o, by rw [e, upd_same]⟩
    · exact ⟨u, by rw [upd_ne e]; exact q⟩
  sub := fun _ q => q
theorem Rep.write {s : Fk.St} (r : Rep g H φ s) {i : Nat} {a : Addr} {o₀ : List D} {ds : List D} {vs : List V} (hs : s[i]? = some (.lst o₀)) (h : φ.o[i]? = some (some a)) (q : RepL g H φ ds vs) (hp : D.pureL ds = true) (hz : vs.length ≤ PySem.sizeLine) : Rep g (upd H a (.lst vs)) φ (s.set i (.lst ds)) := by
  have x : Ext H φ (upd H a (.lst vs)) φ := Ext.write r h
  have hi : i < s.length := (List.getElem?_eq_some_iff.mp hs).1
  refine ⟨by simp [r.len], fun j e => ?_, fun j es e => ?_, fun j ks us e => ?_, r.inj, fun b l => ?_, r.sep⟩
  · by_cases hj : i = j
    · subst hj; rw [List.getElem?_set_self hi] at e; cases e
    · rw [List.getElem?_set_ne hj] at e; exact r.gone j e
  · by_cases hj : i = j
    · subst hj; rw [List.getElem?_set_self hi] at e; cases e
      exact ⟨a, vs, h, upd_same, RepL.ext x _ q, hp, hz⟩
    · rw [List.getElem?_set_ne hj] at e
      obtain ⟨b, us, h1, h2, h3, h4⟩ := r.lst j es e
      refine ⟨b, us, h1, ?_, RepL.ext x es h3, h4⟩
      rw [upd_ne (fun z => hj (r.inj i j a h (by rw [← z]; exact h1)))]
      exact h2
  · by_cases hj : i = j
    · subst hj; rw [List.getElem?_set_self hi] at e; cases e
    · rw [List.getElem?_set_ne hj] at e; exact r.dic j ks us e
  · obtain ⟨o, z⟩ := r.priv b l
    exact x.dom b o z
/-- an object of the store is let go: from now on it stands -/
theorem fz_get {i j : Nat} {a : Addr} (h : (φ.fz i).o[j]? = some (some a)) : φ.o[j]? = some (some a) ∧ i ≠ j := by
  have h' : (φ.o.set i none)[j]? = some (some a) := h
  by_cases e : i = j
  · subst e
    by_cases hl : i < φ.o.length
    · rw [List.getElem?_set_self hl] at h'; cases h'
    · rw [List.getElem?_eq_none (by simpa using hl)] at h'; cases h'
  · rw [List.getElem?_set_ne e] at h'; exact ⟨h', e⟩
theorem Ext.freeze {i : Nat} : Ext H φ H (φ.fz i) where
  len := by simp [Phi.fz]
  old := fun j a _ q => (fz_get q).1
  lv := fun a l => by
    rcases l with ⟨j, hj⟩ | l
    · exact .inl (.inl ⟨j, (fz_get hj).1⟩)
    · exact .inl (.inr l)
  keep := fun _ _ _ q => q
  dom := fun _ o q => ⟨o, q⟩
  sub := fun _ q => q
theorem Rep.freeze {s : Fk.St} (r : Rep g H φ s) {i : Nat} {ds : List D} (hs : s[i]? = some (.lst ds)) : Rep g H (φ.fz i) (s.set i .gone) ∧ ∃ a vs, φ.o[i]? = some (some a) ∧ H a = some (.lst vs) ∧ ¬ Live (φ.fz i) a ∧ RepL g H (φ.fz i) ds vs ∧ vs.length ≤ PySem.sizeLine := by
  have x : Ext H φ H (φ.fz i) := Ext.freeze
  have hi : i < s.length := (List.getElem?_eq_some_iff.mp hs).1
  have hi2 : i < φ.o.length := by rw [r.len]; exact hi
  obtain ⟨a, vs, h1, h2, h3, h4⟩ := r.lst i ds hs
  refine ⟨⟨by simp [Phi.fz, r.len], fun j e => ?_, fun j es e => ?_, fun j ks us e => ?_, fun j k b e1 e2 => r.inj j k b (fz_get e1).1 (fz_get e2).1, r.priv, fun j b e => r.sep j b (fz_get e).1⟩, a, vs, h1, h2, ?_, RepL.ext x ds h3, h4.2⟩
  · show (φ.o.set i none)[j]? = _
    by_cases hj : i = j
    · subst hj; exact List.getElem?_set_self hi2
    · rw [List.getElem?_set_ne hj] at e ⊢; exact r.gone j e
  · by_cases hj : i = j
    · subst hj; rw [List.getElem?_set_self hi] at e; cases e
    · rw [List.getElem?_set_ne hj] at e
      obtain ⟨b, us, q1, q2, q3, q4⟩ := r.lst j es e
      exact ⟨b, us, by show (φ.o.set i none)[j]? = _; rw [List.getElem?_set_ne hj]; exact q1, q2, RepL.ext x es q3, q4⟩
  · by_cases hj : i = j
    · subst hj; rw [List.getElem?_set_self hi] at e; cases e
    · rw [List.getElem?_set_ne hj] at e; exact r.dic j ks us e
  · rintro (⟨j, hj⟩ | l)
    · obtain ⟨q1, q2⟩ := fz_get hj
      exact q2 (r.inj i j a h1 q1)
    · exact r.sep i a h1 l
/-- the store is cut -/
theorem Ext.cut {φ0 : Phi} {H0 : Hp} {k : Nat} (x : Ext H0 φ0 H φ) (hk : φ0.o.length ≤ k) : Ext H0 φ0 H (φ.cut k) where
  len := by show _ ≤ (φ.o.take k).length; rw [List.length_take]; have := x.len; omega
  old := fun j a hj q => x.old j a hj (by
    have q' : (φ.o.take k)[j]? = some (some a) := q
    rw [List.getElem?_take] at q'; split at q' <;> simp_all)
  lv := fun a l => x.lv a (live_cut l)
  keep := x.keep
  dom := x.dom
  sub := x.sub
theorem Rep.cut {s : Fk.St} (r : Rep g H φ s) (k : Nat) : Rep g H (φ.cut k) (s.take k) := by
  have t : ∀ {α : Type} (l : List α) (i : Nat) (x : α), (l.take k)[i]? = some x → i < k ∧ l[i]? = some x := fun l i x h => by
    rw [List.getElem?_take] at h
    split at h
    · exact ⟨by assumption, h⟩
    · cases h
  have u : ∀ {α : Type} (l : List α) (i : Nat) (x : α), i < k → l[i]? = some x → (l.take k)[i]? = some x := fun l i x h q => by
    rw [List.getElem?_take, if_pos h]; exact q
  refine ⟨by simp [Phi.cut, r.len], fun j e => ?_, fun j es e => ?_, fun j ks us e => ?_, fun i j b e1 e2 => r.inj i j b (t _ _ _ e1).2 (t _ _ _ e2).2, r.priv, fun i a e => r.sep i a (t _ _ _ e).2⟩
  · obtain ⟨h, e⟩ := t _ _ _ e
    exact u _ _ _ h (r.gone j e)
  · obtain ⟨h, e⟩ := t _ _ _ e
    obtain ⟨a, vs, h1, h2, h3, h4⟩ := r.lst j es e
    exact ⟨a, vs, u _ _ _ h h1, h2, RepL.phi (fun a l => live_cut l) es h3 h4.1, h4⟩
  · obtain ⟨h, e⟩ := t _ _ _ e
    exact r.dic j ks us e
/-- an object in the making, known to nobody -/
theorem live_hide {a b : Addr} (l : Live (φ.hide b) a) : Live φ a ∨ a = b := by
  rcases l with l | l
  · exact .inl (.inl l)
  · rcases List.mem_cons.mp l with e | l
    · exact .inr e
    · exact .inl (.inr l)
theorem Ext.hide {p : Addr} (h : H p = none) (o : HO) : Ext H φ (upd H p o) (φ.hide p) where
  len := Nat.le_refl _
  old := fun _ _ _ q => q
  lv := fun a l => by
    rcases live_hide l with q | q
    · exact .inl q
    · subst q; exact .inr h
  keep := fun a u _ q => by rw [upd_ne (ne_of_none q h)]; exact q
  dom := fun a u q => ⟨u, by rw [upd_ne (ne_of_none q h)]; exact q⟩
  sub := fun _ q => List.mem_cons_of_mem _ q
theorem Rep.hide {s : Fk.St} (r : Rep g H φ s) {p : Addr} (h : H p = none) (o : HO) : Rep g (upd H p o) (φ.hide p) s :=
  r.bear (Ext.hide h o).bears rfl (fun a q => by
    rcases List.mem_cons.mp q with e | q
    · subst e; exact ⟨.inr h, o, upd_same⟩
    · exact ⟨.inl q, let ⟨u, z⟩ := r.priv a q; (Ext.hide (φ := φ) h o).dom a u z⟩) fun i a u _ q => by rw [upd_ne (ne_of_none q h)]; exact q
/-- it is written -/
theorem bears_poke {p : Addr} (h : p ∈ φ.p) (o : HO) : Bears H φ (upd H p o) φ := ⟨fun a u n q => ⟨by rw [upd_ne (fun e => n (by rw [e]; exact .inr h))]; exact q, n⟩, Nat.le_refl _, fun _ _ _ q => q⟩
theorem Rep.poke {s : Fk.St} (r : Rep g H φ s) {p : Addr} (h : p ∈ φ.p) (o : HO) : Rep g (upd H p o) φ s :=
  r.bear (bears_poke h o) rfl (fun a q => ⟨.inl q, by
    by_cases e : a = p
    · exact ⟨o, by rw [e, upd_same]⟩
    · obtain ⟨u, z⟩ := r.priv a q; exact ⟨u, by rw [upd_ne e]; exact z⟩⟩) fun i a u e q => by
    rw [upd_ne (fun z => r.sep i a e (by rw [z]; exact h))]; exact q
theorem Ext.poke {H0 : Hp} {φ0 : Phi} (x : Ext H0 φ0 H φ) {p : Addr} (h : H0 p = none) (o : HO) : Ext H0 φ0 (upd H p o) φ where
  len := x.len
  old := x.old
  lv := x.lv
  keep := fun a u n q => by rw [upd_ne (ne_of_none q h)]; exact x.keep a u n q
  dom := fun a u q => by rw [upd_ne (ne_of_none q h)]; exact x.dom a u q
  sub := x.sub
/-- it is shown: from now on it stands -/
theorem bears_show {q : List Addr} (h : ∀ a ∈ q, a ∈ φ.p) : Bears H φ H ⟨φ.o, q⟩ := ⟨fun a u n z => ⟨z, fun l => n (by
  rcases l with l | l
  · exact .inl l
  · exact .inr (h a l))⟩, Nat.le_refl _, fun _ _ _ z => z⟩
theorem Rep.show_ {s : Fk.St} (r : Rep g H φ s) {q : List Addr} (h : ∀ a ∈ q, a ∈ φ.p) : Rep g H ⟨φ.o, q⟩ s :=
  r.bear (bears_show h) rfl (fun a z => ⟨.inl (h a z), r.priv a (h a z)⟩) fun _ _ _ _ z => z
theorem Ext.show_ {H0 : Hp} {φ0 : Phi} (x : Ext H0 φ0 H φ) (h : ∀ a ∈ φ0.p, a ∈ φ.p) : Ext H0 φ0 H ⟨φ.o, φ0.p⟩ where
  len := x.len
  old := x.old
  lv := fun a l => x.lv a (by
    rcases l with l | l
    · exact .inl l
    · exact .inr (h a l))
  keep := x.keep
  dom := x.dom
  sub := fun _ z => z

/-! ### the frame -/
structure RepE (g : G) (H : Hp) (φ : Phi) (env : Fk.Env) (σ : L2.St) : Prop where
  len : env.length = σ.length
  at_ : ∀ (i : Nat) (d : D), env[i]? = some (some d) → ∃ v, σ[i]? = some (some v) ∧ RepV g H φ d v
theorem RepE.ext {env : Fk.Env} {σ : L2.St} (x : Ext H φ H' φ') (r : RepE g H φ env σ) : RepE g H' φ' env σ :=
  ⟨r.len, fun i d e => let ⟨v, h1, h2⟩ := r.at_ i d e; ⟨v, h1, RepV.ext x d h2⟩⟩
theorem RepE.set {env : Fk.Env} {σ : L2.St} (r : RepE g H φ env σ) (i : Nat) {d : D} {v : V} (h : RepV g H φ d v) : RepE g H φ (env.set i (some d)) (σ.set i (some v)) := by
  refine ⟨by simp [r.len], fun j x e => ?_⟩
  by_cases hj : i = j
  · subst hj
    by_cases hl : i < env.length
    · rw [List.getElem?_set_self hl] at e
      cases e
      exact ⟨v, List.getElem?_set_self (by rw [← r.len]; exact hl), h⟩
    · rw [List.getElem?_eq_none (by simpa using hl)] at e; cases e
  · rw [List.getElem?_set_ne hj] at e ⊢; exact r.at_ j x e
theorem RepE.unset {env : Fk.Env} {σ : L2.St} (r : RepE g H φ env σ) (i : Nat) : RepE g H φ (env.set i none) (σ.set i none) := by
  refine ⟨by simp [r.len], fun j x e => ?_⟩
  by_cases hj : i = j
  · subst hj
    by_cases hl : i < env.length
    · rw [List.getElem?_set_self hl] at e; cases e
    · rw [List.getElem?_eq_none (by simpa using hl)] at e; cases e
  · rw [List.getElem?_set_ne hj] at e ⊢; exact r.at_ j x e
theorem RepE.wipe {env : Fk.Env} {σ : L2.St} (r : RepE g H φ env σ) : ∀ is : List Nat, RepE g H φ (Fk.wipe env is) (L2.wipe σ is)
  | [] => r
  | i :: is => by unfold Fk.wipe L2.wipe; exact (RepE.wipe r is).unset i
end
end L3

set_option Elab.async false
set_option linter.all false
set_option autoImplicit false
set_option maxRecDepth 100000
set_option maxHeartbeats 4000000
/-! FkOps: what is told of a result; the operations by values. -/
namespace L3
open PySem PySem.Spec PyProof.Rows L2 Fk

/-- how an exception lies -/
def ExR (g : G) (H : Hp) (φ : Phi) (x : Ex) (cls : Value) (d : Option Addr) : Prop :=
  ∃ nm C, g.excs[x.cls]? = some nm ∧ g.mg nm = some (.ref C) ∧ cls = .ref C ∧
    (match x.arg with
     | none => d = none
     | some a => ∃ dd v, d = some dd ∧ H dd = some (.xd [(("name" : PySem.Str), v)]) ∧ RepV g H φ a v)

def PostR {α β : Type} (ρ : Hp → Phi → α → β → Prop) (g : G) (H : Hp) (φ : Phi) (r : R α) (Q : β → Hp → Prop) (E : XK) : Prop :=
  match r with
  | .ok a s => ∀ b H' φ', Ext H φ H' φ' → Rep g H' φ' s → ρ H' φ' a b → Q b H'
  | .err x s => ∀ cls d H' φ', Ext H φ H' φ' → Rep g H' φ' s → ExR g H' φ' x cls d → E cls d H'
  | .bad => False
section
variable {α β γ δ : Type} {ρ : Hp → Phi → α → β → Prop} {ρ1 : Hp → Phi → γ → δ → Prop} {g : G} {H H' : Hp} {φ φ' : Phi} {r : R α} {Q : β → Hp → Prop} {E : XK}
theorem PostR.ext (p : PostR ρ g H φ r Q E) (x : Ext H φ H' φ') : PostR ρ g H' φ' r Q E := by
  cases r with
  | ok a s => exact fun b H2 φ2 y => p b H2 φ2 (x.trans y)
  | err e s => exact fun c d H2 φ2 y => p c d H2 φ2 (x.trans y)
  | bad => exact p
theorem PostR.bind {m : R γ} {f : γ → Fk.St → R α} {Q1 : δ → Hp → Prop} (p : PostR ρ g H φ (m.bind f) Q E)
    (k : ∀ c s d H1 φ1, Ext H φ H1 φ1 → Rep g H1 φ1 s → ρ1 H1 φ1 c d → PostR ρ g H1 φ1 (f c s) Q E → Q1 d H1) : PostR ρ1 g H φ m Q1 E := by
  cases m with
  | ok a s => exact fun b H2 φ2 y r2 h => k a s b H2 φ2 y r2 h (p.ext y)
  | err e s => exact p
  | bad => exact p
theorem PostR.here {a : α} {b : β} {s : Fk.St} (p : PostR ρ g H φ (.ok a s) Q E) (r : Rep g H φ s) (h : ρ H φ a b) : Q b H := p b H φ Ext.refl r h
end

section
variable {g : G} {H : Hp} {φ : Phi} {s : Fk.St} {Q : VK} {E : XK}
theorem repv_lst {ds : List D} {x : V} (h : RepV g H φ (.lst ds) x) : ∃ a vs, x = .ref a ∧ ¬ Live φ a ∧ H a = some (.lst vs) ∧ RepL g H φ ds vs ∧ vs.length ≤ PySem.sizeLine := by unfold RepV at h; exact h
theorem repv_tup {ds : List D} {x : V} (h : RepV g H φ (.tup ds) x) : ∃ a vs, x = .ref a ∧ TupAt g H φ a vs ∧ RepL g H φ ds vs ∧ vs.length ≤ PySem.sizeLine := by unfold RepV at h; exact h
theorem repv_int {i : Int} {x : V} (h : RepV g H φ (.int i) x) : x = .int i := by unfold RepV at h; exact h
theorem repv_bl {i : Bool} {x : V} (h : RepV g H φ (.bl i) x) : x = .bl i := by unfold RepV at h; exact h
theorem repv_str {z : List Nat} {x : V} (h : RepV g H φ (.str z) x) : x = .str (strV z) := by unfold RepV at h; exact h
theorem repv_none {x : V} (h : RepV g H φ .none x) : x = .non := by unfold RepV at h; exact h
theorem repv_scr {ns : List Int} {x : V} (h : RepV g H φ (.scr ns) x) : ∃ a, x = .ref a ∧ ScrAt g H φ a (ns.map V.int) ∧ ns.length ≤ PySem.sizeLine := by unfold RepV at h; exact h
theorem repv_of_int {i : Int} : RepV g H φ (.int i) (.int i) := by unfold RepV; rfl
theorem repv_of_bl {i : Bool} : RepV g H φ (.bl i) (.bl i) := by unfold RepV; rfl
theorem repv_of_str {z : List Nat} : RepV g H φ (.str z) (.str (strV z)) := by unfold RepV; rfl
theorem repv_of_none : RepV g H φ .none .non := by unfold RepV; rfl

/-- what is read: a list, tracked -/
theorem rd_lst {a : D} {ds : List D} {x : V} (r : Rep g H φ s) (h : RepV g H φ a x) (e : rd s a = .lst ds) : ∃ p vs, x = .ref p ∧ H p = some (.lst vs) ∧ RepL g H φ ds vs ∧ vs.length ≤ PySem.sizeLine := by
  cases a with
  | lst es =>
    obtain ⟨p, vs, h1, _, h2, h3, h4⟩ := repv_lst h
    unfold rd at e; cases e
    exact ⟨p, vs, h1, h2, h3, h4⟩
  | ref i =>
    unfold RepV at h
    obtain ⟨_, _, h⟩ := h
    cases q : s[i]? with
    | none => simp [rd, q] at e
    | some o =>
      cases o with
      | gone => simp [rd, q] at e
      | dic ks vs => simp [rd, q] at e
      | lst es =>
        simp [rd, q] at e
        subst e
        obtain ⟨p, vs, h1, h2, h3, _, h4⟩ := r.lst i _ q
        exact ⟨p, vs, h p h1, h2, h3, h4⟩
  | _ => unfold rd at e; cases e
/-- what is read, all else, is the thing itself -/
theorem rd_same {a : D} (r : Rep g H φ s) (e : ∀ ds, rd s a ≠ .lst ds) : rd s a = a := by
  cases a with
  | ref i =>
    cases q : s[i]? with
    | none => simp [rd, q]
    | some o =>
      cases o with
      | gone => simp [rd, q]
      | dic ks vs => exact (r.dic i ks vs q).elim
      | lst es => exact absurd (by simp [rd, q]) (e es)
  | _ => rfl
theorem rd_is {a b : D} {x : V} (r : Rep g H φ s) (h : RepV g H φ a x) (e : rd s a = b) (n : ∀ ds, b ≠ .lst ds) : RepV g H φ b x := by
  have := rd_same r (a := a) (fun ds q => n ds (e.symm.trans q))
  rw [← e, this]; exact h

/-- a new list -/
theorem new_lst {ds : List D} {vs : List V} {p : Addr} (r : Rep g H φ s) (q : PostR (RepV g) g H φ (.ok (.lst ds) s) Q E) (h : RepL g H φ ds vs) (z : vs.length ≤ PySem.sizeLine) (hp : H p = none) : Q (.ref p) (upd H p (.lst vs)) := by
  have x := Ext.new_ r hp (.lst vs)
  refine q _ _ φ x (r.new_ hp _) ?_
  unfold RepV
  exact ⟨p, vs, rfl, r.notLive hp, upd_same, RepL.ext x ds h, z⟩
theorem new_tup {ds : List D} {vs : List V} {p : Addr} (r : Rep g H φ s) (q : PostR (RepV g) g H φ (.ok (.tup ds) s) Q E) (h : RepL g H φ ds vs) (z : vs.length ≤ PySem.sizeLine) (hp : H p = none) : Q (.ref p) (upd H p (.tup vs)) := by
  have x := Ext.new_ r hp (.tup vs)
  refine q _ _ φ x (r.new_ hp _) ?_
  unfold RepV
  exact ⟨p, vs, rfl, .inr ⟨r.notLive hp, upd_same⟩, RepL.ext x ds h, z⟩
theorem new_dic {ks vs : List D} {p : Addr} {kvs : List (Key × V)} (r : Rep g H φ s) (q : PostR (RepV g) g H φ (.ok (.dic ks vs) s) Q E) (hp : H p = none) : Q (.ref p) (upd H p (.dK kvs)) := by
  have x := Ext.new_ r hp (.dK kvs)
  refine q _ _ φ x (r.new_ hp _) ?_
  unfold RepV
  exact ⟨p, kvs, rfl, r.notLive hp, upd_same⟩
/-- a new list of the store -/
theorem new_obj {ds : List D} {vs : List V} {p : Addr} (r : Rep g H φ s) (q : PostR (RepV g) g H φ (Fk.alloc (.lst ds) s) Q E) (h : RepL g H φ ds vs) (z : vs.length ≤ PySem.sizeLine) (hp : H p = none) : Q (.ref p) (upd H p (.lst vs)) := by
  unfold Fk.alloc at q
  by_cases hpure : (O.lst ds).pure = true
  · rw [if_pos hpure] at q
    have x := Ext.alloc r hp (.lst vs)
    refine q _ _ (φ.add p) x (r.alloc hp h hpure z) ?_
    unfold RepV
    refine ⟨by rw [← r.len]; simp [Phi.add], ⟨p, rfl⟩, fun a ha => ?_⟩
    have ha : (φ.o ++ [some p])[s.length]? = some (some a) := ha
    rw [← r.len, List.getElem?_append_right (Nat.le_refl _)] at ha
    simp at ha
    rw [ha]
  · rw [if_neg hpure] at q; exact q.elim

theorem new_fin {t : Bool} {ds : List D} {vs : List V} {p : Addr} (r : Rep g H φ s) (q : PostR (RepV g) g H φ (fin t ds s) Q E) (h : RepL g H φ ds vs) (z : vs.length ≤ PySem.sizeLine) (hp : H p = none) : Q (.ref p) (upd H p (.lst vs)) := by
  unfold fin at q
  cases t with
  | true => exact new_obj r q h z hp
  | false => exact new_lst r q h z hp
end

/-! ### operations by values -/
/-- of two values -/
def rS2 (g : G) (f : D → D → Fk.St → R D) : R2 := fun x y H Q => ∃ a b s φ, Rep g H φ s ∧ RepV g H φ a x ∧ RepV g H φ b y ∧ ∃ E, PostR (RepV g) g H φ (f a b s) Q E
def opOf : Op → Operator
  | .add => .Add | .sub => .Sub | .mul => .Mult | .fdiv => .FloorDiv | .mod => .Mod | .pow => .Pow
theorem strV_len (z : List Nat) : (strV z).length = z.length := by simp [strV, PySem.Str.length]
theorem strV_app (a b : List Nat) : strV a ++ strV b = strV (a ++ b) := by
  show (⟨_⟩ : PySem.Str) = _
  simp [strV]
theorem sl_eq : Fk.sizeLine = PySem.sizeLine := by rw [PySem.sizeLine_eq]; rfl
theorem Inv.rep_lt {X : Cx} {pins : List (Addr × Obj)} {σ : L2.St} {H : Hp} {s : Shared} (I : Inv X pins σ H s) : True := trivial

section
variable {X : Cx} {g : G}
theorem op_powW : OpR X (binaryOp .Pow) (rI (fun i j => 0 ≤ j ∧ ((i.natAbs.log2 + 1) * j.toNat ≤ 2 ^ 27)) fun i j => .int (i ^ j.toNat)) := opI fun i j _ _ _ _ _ hc q => pow_int hc.1 (by
  have b : Builtin.Int.intBits i ≤ i.natAbs.log2 + 1 := by unfold Builtin.Int.intBits; split <;> omega
  have h1 : Builtin.Int.intBits i * j.toNat ≤ (i.natAbs.log2 + 1) * j.toNat := Nat.mul_le_mul_right _ b
  have h2 : Builtin.Int.intBits i * j.toNat ≤ 2 ^ 27 := Nat.le_trans h1 hc.2
  have h3 : ((Builtin.Int.intBits i * j.toNat : Nat) : Int) ≤ ((2 ^ 27 : Nat) : Int) := Int.ofNat_le.mpr h2
  have h4 : ((j.toNat : Nat) : Int) = j := Int.toNat_of_nonneg hc.1
  rw [Int.natCast_mul, h4] at h3
  exact h3) q
theorem op_bin (o : Op) (t : Bool) (hk : g.K = X.K) : OpR X (binaryOp (opOf o)) (rS2 g (binD o t)) := by
  intro pins s σ H x y v u Q I rx ry h
  obtain ⟨a, b, st, φ, r, ha, hb, E, h⟩ := h
  unfold binD at h
  split at h
  · rename_i e1 e2
    have h1 := repv_int (rd_is r ha e1 (fun _ q => nomatch q)); have h2 := repv_int (rd_is r hb e2 (fun _ q => nomatch q))
    exact op_add pins s σ H x y v u Q I rx ry ⟨_, _, h1, h2, h.here r repv_of_int⟩
  · rename_i e1 e2
    have h1 := repv_int (rd_is r ha e1 (fun _ q => nomatch q)); have h2 := repv_int (rd_is r hb e2 (fun _ q => nomatch q))
    exact op_sub pins s σ H x y v u Q I rx ry ⟨_, _, h1, h2, h.here r repv_of_int⟩
  · rename_i e1 e2
    have h1 := repv_int (rd_is r ha e1 (fun _ q => nomatch q)); have h2 := repv_int (rd_is r hb e2 (fun _ q => nomatch q))
    split at h
    · rename_i c
      exact op_mulW pins s σ H x y v u Q I rx ry ⟨_, _, h1, h2, c, h.here r repv_of_int⟩
    · exact h.elim
  · rename_i e1 e2
    have h1 := repv_int (rd_is r ha e1 (fun _ q => nomatch q)); have h2 := repv_int (rd_is r hb e2 (fun _ q => nomatch q))
    split at h
    · rename_i c
      exact op_fdivW pins s σ H x y v u Q I rx ry ⟨_, _, h1, h2, c, h.here r repv_of_int⟩
    · exact h.elim
  · rename_i e1 e2
    have h1 := repv_int (rd_is r ha e1 (fun _ q => nomatch q)); have h2 := repv_int (rd_is r hb e2 (fun _ q => nomatch q))
    split at h
    · rename_i c
      exact op_mod pins s σ H x y v u Q I rx ry ⟨_, _, h1, h2, c, h.here r repv_of_int⟩
    · exact h.elim
  · rename_i e1 e2
    have h1 := repv_int (rd_is r ha e1 (fun _ q => nomatch q)); have h2 := repv_int (rd_is r hb e2 (fun _ q => nomatch q))
    split at h
    · rename_i c
      exact op_powW pins s σ H x y v u Q I rx ry ⟨_, _, h1, h2, c, h.here r repv_of_int⟩
    · exact h.elim
  · rename_i e1 e2
    have h1 := repv_str (rd_is r ha e1 (fun _ q => nomatch q)); have h2 := repv_str (rd_is r hb e2 (fun _ q => nomatch q))
    split at h
    · rename_i c
      exact op_add_str pins s σ H x y v u Q I rx ry ⟨_, _, h1, h2, by rw [strV_len, strV_len, ← sl_eq]; exact c, by rw [strV_app]; exact h.here r repv_of_str⟩
    · exact h.elim
  · rename_i as bs e1 e2
    obtain ⟨p, vs, h1, h2, h3, h4⟩ := repv_tup (rd_is r ha e1 (fun _ q => nomatch q))
    obtain ⟨p', vs', h1', h2', h3', h4'⟩ := repv_tup (rd_is r hb e2 (fun _ q => nomatch q))
    have l1 := h3.length; have l2 := h3'.length
    split at h
    · rename_i c
      have hz : vs.length + vs'.length ≤ PySem.sizeLine := by rw [← sl_eq, ← l1, ← l2]; exact c
      refine op_catA pins s σ H x y v u Q I rx ry ⟨p, p', vs, vs', h1, h1', hk ▸ h2.sq, hk ▸ h2'.sq, hz, fun e => ?_, fun e e' => ?_, fun _ _ q hq => ?_⟩
      · have : as = [] := List.length_eq_zero_iff.mp (by rw [l1, e]; rfl)
        subst this
        refine h.here r ?_
        unfold RepV
        exact ⟨p', vs', rfl, h2', h3', h4'⟩
      · have : bs = [] := List.length_eq_zero_iff.mp (by rw [l2, e']; rfl)
        subst this
        refine h.here r ?_
        rw [List.append_nil]
        unfold RepV
        exact ⟨p, vs, rfl, h2, h3, h4⟩
      · exact new_tup r h (h3.append h3') (by rw [List.length_append]; exact hz) hq
    · exact h.elim
  · rename_i e1 e2
    obtain ⟨p, vs, h1, h2, h3, h4⟩ := rd_lst r ha e1
    obtain ⟨p', vs', h1', h2', h3', h4'⟩ := rd_lst r hb e2
    have l1 := h3.length; have l2 := h3'.length
    split at h
    · rename_i c
      refine op_cat pins s σ H x y v u Q I rx ry ⟨p, p', vs, vs', h1, h1', h2, h2', ?_, fun q hq => new_fin r h (h3.append h3') ?_ hq⟩
      · rw [← sl_eq, ← l1, ← l2]; exact c
      · rw [List.length_append, ← sl_eq, ← l1, ← l2]; exact c
    · exact h.elim
  · exact h.elim
end

/-! ### data that == is told of -/
mutual
def toPy : D → PyData
  | .bl b => .bool b
  | .int i => .int i
  | .str z => .str (strV z)
  | .tup ds => .tuple (toPyL ds)
  | .lst ds => .list (toPyL ds)
  | _ => .none
def toPyL : List D → List PyData
  | [] => []
  | d :: ds => toPy d :: toPyL ds
end
mutual
theorem dp_of {g : G} {H : Hp} {φ : Phi} : ∀ (d : D) {x : V}, RepV g H φ d x → flat d = true → Dp g.K H x (toPy d)
  | .none, _, h, _ => by rw [repv_none h]; unfold toPy; exact .non
  | .bl b, _, h, _ => by rw [repv_bl h]; unfold toPy; exact .bl b
  | .int b, _, h, _ => by rw [repv_int h]; unfold toPy; exact .int b
  | .str b, _, h, _ => by rw [repv_str h]; unfold toPy; exact .str _
  | .tup ds, _, h, f => by
    obtain ⟨a, vs, rfl, t, r, _⟩ := repv_tup h
    unfold toPy
    exact .tup t.sq (dpl_of ds r (by unfold flat at f; exact f))
  | .lst ds, _, h, f => by
    obtain ⟨a, vs, rfl, _, t, r, _⟩ := repv_lst h
    unfold toPy
    exact .lst (SqL.of t) (dpl_of ds r (by unfold flat at f; exact f))
  | .dic _ _, _, _, f => by unfold flat at f; cases f
  | .set _, _, _, f => by unfold flat at f; cases f
  | .scr _, _, _, f => by unfold flat at f; cases f
  | .ref _, _, _, f => by unfold flat at f; cases f
  | .fn _, _, _, f => by unfold flat at f; cases f
  | .ty _, _, _, f => by unfold flat at f; cases f
  | .tab _ _, _, _, f => by unfold flat at f; cases f
theorem dpl_of {g : G} {H : Hp} {φ : Phi} : ∀ (ds : List D) {vs : List V}, RepL g H φ ds vs → flatL ds = true → DpAll g.K H vs (toPyL ds)
  | [], _, h, _ => by unfold RepL at h; subst h; unfold toPyL; exact .nil
  | d :: ds, _, h, f => by
    unfold RepL at h
    obtain ⟨v, r, rfl, h1, h2⟩ := h
    unfold flatL at f
    rw [Bool.and_eq_true] at f
    unfold toPyL
    exact .cons (dp_of d h1 f.1) (dpl_of ds h2 f.2)
end
theorem strV_inj {a b : List Nat} : (strV a == strV b) = (a == b) := by
  by_cases h : a = b
  · subst h; simp
  · have : strV a ≠ strV b := fun e => h (by have := congrArg (fun z : PySem.Str => z.cps.toList) e; simpa [strV] using this)
    rw [beq_eq_false_iff_ne.mpr h, beq_eq_false_iff_ne.mpr this]
mutual
theorem eqv_py : ∀ a b : D, flat a = true → flat b = true → eqv a b = PyData.eqv (toPy a) (toPy b)
  | .none, b, _, f => by cases b <;> first | (unfold flat at f; cases f; done) | simp [eqv, toPy, PyData.eqv]
  | .bl _, b, _, f => by cases b <;> first | (unfold flat at f; cases f; done) | simp [eqv, toPy, PyData.eqv]
  | .int _, b, _, f => by cases b <;> first | (unfold flat at f; cases f; done) | simp [eqv, toPy, PyData.eqv]
  | .str _, b, _, f => by cases b <;> first | (unfold flat at f; cases f; done) | simp [eqv, toPy, PyData.eqv, strV_inj]
  | .tup ds, b, f1, f => by
    cases b with
    | tup es => simp only [eqv, toPy, PyData.eqv]; exact eqv_pyL ds es (by unfold flat at f1; exact f1) (by unfold flat at f; exact f)
    | _ => first | (unfold flat at f; cases f; done) | simp [eqv, toPy, PyData.eqv]
  | .lst ds, b, f1, f => by
    cases b with
    | lst es => simp only [eqv, toPy, PyData.eqv]; exact eqv_pyL ds es (by unfold flat at f1; exact f1) (by unfold flat at f; exact f)
    | _ => first | (unfold flat at f; cases f; done) | simp [eqv, toPy, PyData.eqv]
  | .dic _ _, _, f, _ => by unfold flat at f; cases f
  | .set _, _, f, _ => by unfold flat at f; cases f
  | .scr _, _, f, _ => by unfold flat at f; cases f
  | .ref _, _, f, _ => by unfold flat at f; cases f
  | .fn _, _, f, _ => by unfold flat at f; cases f
  | .ty _, _, f, _ => by unfold flat at f; cases f
  | .tab _ _, _, f, _ => by unfold flat at f; cases f
theorem eqv_pyL : ∀ a b : List D, flatL a = true → flatL b = true → eqvL a b = PyData.eqvAll (toPyL a) (toPyL b)
  | [], [], _, _ => by simp [eqvL, toPyL, PyData.eqvAll]
  | [], b :: bs, _, _ => by simp [eqvL, toPyL, PyData.eqvAll]
  | a :: as, [], _, _ => by simp [eqvL, toPyL, PyData.eqvAll]
  | a :: as, b :: bs, f, f' => by
    unfold flatL at f f'
    rw [Bool.and_eq_true] at f f'
    simp only [eqvL, toPyL, PyData.eqvAll]
    rw [eqv_py a b f.1 f'.1, eqv_pyL as bs f.2 f'.2]
end
mutual
theorem plain_py : ∀ a : D, (toPy a).plain = true
  | .none => rfl
  | .bl _ => rfl
  | .int _ => rfl
  | .str _ => rfl
  | .tup ds => by unfold toPy PyData.plain; exact plain_pyL ds
  | .lst ds => by unfold toPy PyData.plain; exact plain_pyL ds
  | .dic _ _ => rfl
  | .set _ => rfl
  | .scr _ => rfl
  | .ref _ => rfl
  | .fn _ => rfl
  | .ty _ => rfl
  | .tab _ _ => rfl
theorem plain_pyL : ∀ a : List D, PyData.plainAll (toPyL a) = true
  | [] => rfl
  | a :: as => by unfold toPyL PyData.plainAll; rw [plain_py a, plain_pyL as]; rfl
end
mutual
theorem depth_py : ∀ a : D, (toPy a).depth ≤ depth a
  | .none => by simp [toPy, PyData.depth]
  | .bl _ => by simp [toPy, PyData.depth]
  | .int _ => by simp [toPy, PyData.depth]
  | .str _ => by simp [toPy, PyData.depth]
  | .tup ds => by unfold toPy PyData.depth depth; have := depth_pyL ds; omega
  | .lst ds => by unfold toPy PyData.depth depth; have := depth_pyL ds; omega
  | .dic _ _ => by simp [toPy, PyData.depth]
  | .set _ => by simp [toPy, PyData.depth]
  | .scr _ => by simp [toPy, PyData.depth]
  | .ref _ => by simp [toPy, PyData.depth]
  | .fn _ => by simp [toPy, PyData.depth]
  | .ty _ => by simp [toPy, PyData.depth]
  | .tab _ _ => by simp [toPy, PyData.depth]
theorem depth_pyL : ∀ a : List D, PyData.depthAll (toPyL a) ≤ depthL a
  | [] => by simp [toPyL, PyData.depthAll]
  | a :: as => by unfold toPyL PyData.depthAll depthL; have := depth_py a; have := depth_pyL as; omega
end
/-- what == reads of a value: itself, or the list it refers to -/
theorem rd_dp {g : G} {H : Hp} {φ : Phi} {s : Fk.St} {a : D} {x : V} (r : Rep g H φ s) (h : RepV g H φ a x) (f : flat (rd s a) = true) : Dp g.K H x (toPy (rd s a)) := by
  cases e : rd s a with
  | lst ds =>
    obtain ⟨p, vs, rfl, h1, h2, _⟩ := rd_lst r h e
    rw [e] at f
    unfold toPy
    exact .lst (SqL.of h1) (dpl_of ds h2 (by unfold flat at f; exact f))
  | _ =>
    have q := rd_is r h e (fun _ z => nomatch z)
    rw [e] at f
    exact dp_of _ q f

section
variable {X : Cx} {g : G}
def cmpOf : Cmp → CmpOp
  | .lt => .Lt | .le => .LtE | .gt => .Gt | .ge => .GtE | .eq => .Eq | .ne => .NotEq | .isin => .In | .notin => .NotIn | .is_ => .Is | .isnot => .IsNot
theorem mem_dec (b : List Nat) (c : Nat) : b.contains c = decide (c ∈ (strV b).cps.toList) := by
  show _ = decide (c ∈ b)
  simp [List.contains_iff_mem]
theorem isN_rep {g : G} {H : Hp} {φ : Phi} {d : D} {x : V} (h : RepV g H φ d x) : isN d = decide (x = .non) := by
  cases d with
  | none => rw [repv_none h]; rfl
  | bl b => rw [repv_bl h]; rfl
  | int b => rw [repv_int h]; rfl
  | str b => rw [repv_str h]; rfl
  | tup ds => obtain ⟨a, vs, rfl, _⟩ := repv_tup h; rfl
  | lst ds => obtain ⟨a, vs, rfl, _⟩ := repv_lst h; rfl
  | dic ks vs => unfold RepV at h; obtain ⟨a, kvs, rfl, _⟩ := h; rfl
  | set ds => unfold RepV at h; exact h.elim
  | scr ns => obtain ⟨a, rfl, _⟩ := repv_scr h; rfl
  | ref i => unfold RepV at h; obtain ⟨_, ⟨a, rfl⟩, _⟩ := h; rfl
  | fn f => unfold RepV at h; obtain ⟨_, a, _, _, rfl⟩ := h; rfl
  | ty t => unfold RepV at h; rw [h]; rfl
  | tab ks ds => unfold RepV at h; obtain ⟨a, us, rfl, _⟩ := h; rfl
theorem isN_rd {g : G} {H : Hp} {φ : Phi} {s : Fk.St} {d : D} {x : V} (r : Rep g H φ s) (h : RepV g H φ d x) : isN (rd s d) = decide (x = .non) := by
  cases e : rd s d with
  | lst ds => obtain ⟨p, vs, rfl, _⟩ := rd_lst r h e; rfl
  | _ => exact isN_rep (rd_is r h e (fun _ z => nomatch z))
theorem any_py (d : D) (hd : flat d = true) : ∀ ds : List D, flatL ds = true → (ds.any fun z => eqv z d) = (toPyL ds).any fun z => PyData.eqv z (toPy d)
  | [], _ => by simp [toPyL]
  | a :: as, f => by
    unfold flatL at f
    rw [Bool.and_eq_true] at f
    unfold toPyL
    rw [List.any_cons, List.any_cons, eqv_py a d f.1 hd, any_py d hd as f.2]
theorem in_data {neg : Bool} {pins : List (Addr × Obj)} {s : Shared} {σ : L2.St} {H : Hp} {x y : V} {v u : Value} {Q : VK} {a b : D} {t : Fk.St} {φ : Phi} {E : XK} {ds : List D} (hu : X.A.units + 64 < cLine) (hk : g.K = X.K) (I : Inv X pins σ H s) (rx : RelV x v) (ry : RelV y u)
    (r : Rep g H φ t) (ha : RepV g H φ a x) (hb : RepV g H φ b y) (e2 : rd t b = .lst ds ∨ rd t b = .tup ds) (c : (flat (rd t a) && flatL ds && decide (depth (rd t a) ≤ 60) && decide (depthL ds ≤ 60)) = true)
    (h : PostR (RepV g) g H φ (.ok (.bl (if neg then !ds.any fun z => eqv z (rd t a) else ds.any fun z => eqv z (rd t a))) t) Q E) : wpAny (model X.prog X.w) X.A (compareOp (if neg then .NotIn else .In) v u) (EP X pins σ Q) X.xe s := by
  simp only [Bool.and_eq_true, decide_eq_true_eq] at c
  obtain ⟨⟨⟨f1, f2⟩, d1⟩, d2⟩ := c
  have f2' : flat (rd t b) = true := by rcases e2 with e | e <;> (rw [e]; unfold flat; exact f2)
  obtain ⟨as, q1⟩ := Dp.reads I _ x v (hk ▸ rd_dp r ha f1) rx
  obtain ⟨bs, q2⟩ := Dp.reads I _ y u (hk ▸ rd_dp r hb f2') ry
  have hroom : X.A.units + 1 + min (PyData.depthAll (toPyL ds)) (toPy (rd t a)).depth < cLine := by have := depth_pyL ds; omega
  rw [any_py _ f1 ds f2] at h
  have q := h.here r repv_of_bl
  rcases e2 with e | e
  · rw [e] at q2
    unfold toPy at q2
    cases neg with
    | true => exact PySem.SeqAt.notIn_list_data q2 q1 (plain_pyL _) (plain_py _) hroom ⟨.bl _, H, I, rfl, q⟩
    | false => exact PySem.SeqAt.in_list_data q2 q1 (plain_pyL _) (plain_py _) hroom ⟨.bl _, H, I, rfl, q⟩
  · rw [e] at q2
    unfold toPy at q2
    cases neg with
    | true => exact PySem.SeqAt.notIn_tuple_data q2 q1 (plain_pyL _) (plain_py _) hroom ⟨.bl _, H, I, rfl, q⟩
    | false => exact PySem.SeqAt.in_tuple_data q2 q1 (plain_pyL _) (plain_py _) hroom ⟨.bl _, H, I, rfl, q⟩
/-- is True, is False: the left side anything -/
theorem op_isTF : OpR X (compareOp .Is) (fun x y H Q => ∃ k : Bool, y = .bl k ∧ Q (.bl (decide (x = .bl k))) H) := by
  intro pins s σ H x y v u Q I rx ry h
  obtain ⟨k, rfl, q⟩ := h
  cases (show u = Value.bool k from ry)
  by_cases e : x = .bl k
  · subst e
    cases (show v = Value.bool k from rx)
    exact wpAny_is_self rfl ⟨.bl true, H, I, rfl, by simpa using q⟩
  · have hp : plainIs v (.bool k) = true := by cases x <;> first | (cases rx; rfl) | (obtain ⟨t, ht⟩ := rx; rw [ht]; rfl)
    have hne : v ≠ .bool k := by
      rintro rfl
      apply e
      cases x <;> first | (cases rx; rfl) | (obtain ⟨t, ht⟩ := rx; cases ht) | (cases rx)
    exact wpAny_is_other hp hne ⟨.bl false, H, I, rfl, by simpa [e] using q⟩
theorem op_notTF : OpR X (compareOp .IsNot) (fun x y H Q => ∃ k : Bool, y = .bl k ∧ Q (.bl (!decide (x = .bl k))) H) := by
  intro pins s σ H x y v u Q I rx ry h
  obtain ⟨k, rfl, q⟩ := h
  cases (show u = Value.bool k from ry)
  by_cases e : x = .bl k
  · subst e
    cases (show v = Value.bool k from rx)
    exact wpAny_isNot_self rfl ⟨.bl false, H, I, rfl, by simpa using q⟩
  · have hp : plainIs v (.bool k) = true := by cases x <;> first | (cases rx; rfl) | (obtain ⟨t, ht⟩ := rx; rw [ht]; rfl)
    have hne : v ≠ .bool k := by
      rintro rfl
      apply e
      cases x <;> first | (cases rx; rfl) | (obtain ⟨t, ht⟩ := rx; cases ht) | (cases rx)
    exact wpAny_isNot_other hp hne ⟨.bl true, H, I, rfl, by simpa [e] using q⟩
theorem isB_rep {g : G} {H : Hp} {φ : Phi} {d : D} {x : V} {k : Bool} (h : RepV g H φ d x) : isB k d = decide (x = .bl k) := by
  cases d with
  | none => rw [repv_none h]; rfl
  | bl b => rw [repv_bl h]; cases b <;> cases k <;> rfl
  | int b => rw [repv_int h]; rfl
  | str b => rw [repv_str h]; rfl
  | tup ds => obtain ⟨a, vs, rfl, _⟩ := repv_tup h; rfl
  | lst ds => obtain ⟨a, vs, rfl, _⟩ := repv_lst h; rfl
  | dic ks vs => unfold RepV at h; obtain ⟨a, kvs, rfl, _⟩ := h; rfl
  | set ds => unfold RepV at h; exact h.elim
  | scr ns => obtain ⟨a, rfl, _⟩ := repv_scr h; rfl
  | ref i => unfold RepV at h; obtain ⟨_, ⟨a, rfl⟩, _⟩ := h; rfl
  | fn f => unfold RepV at h; obtain ⟨_, a, _, _, rfl⟩ := h; rfl
  | ty t => unfold RepV at h; rw [h]; rfl
  | tab ks ds => unfold RepV at h; obtain ⟨a, us, rfl, _⟩ := h; rfl
theorem isB_rd {g : G} {H : Hp} {φ : Phi} {s : Fk.St} {d : D} {x : V} {k : Bool} (r : Rep g H φ s) (h : RepV g H φ d x) : isB k (rd s d) = decide (x = .bl k) := by
  cases e : rd s d with
  | lst ds => obtain ⟨p, vs, rfl, _⟩ := rd_lst r h e; rfl
  | _ => exact isB_rep (rd_is r h e (fun _ z => nomatch z))
theorem len_ne {g : G} {H : Hp} {φ : Phi} {s : Fk.St} {a b : D} {x y : V} (r : Rep g H φ s) (ha : RepV g H φ a x) (hb : RepV g H φ b y) (h : lenNe (rd s a) (rd s b) = true) :
    ∃ p q xs ys, x = .ref p ∧ y = .ref q ∧ H p = some (.lst xs) ∧ H q = some (.lst ys) ∧ xs.length ≠ ys.length := by
  unfold lenNe at h
  split at h
  · rename_i as bs e1 e2
    obtain ⟨p, xs, h1, h2, h3, _⟩ := rd_lst r ha e1
    obtain ⟨q, ys, h4, h5, h6, _⟩ := rd_lst r hb e2
    rw [decide_eq_true_eq, h3.length, h6.length] at h
    exact ⟨p, q, xs, ys, h1, h4, h2, h5, h⟩
  · cases h
theorem op_cmp (o : Cmp) (hu : X.A.units + 64 < cLine) (hk : g.K = X.K) : OpR X (compareOp (cmpOf o)) (rS2 g (cmpD o)) := by
  intro pins s σ H x y v u Q I rx ry h
  obtain ⟨a, b, t, φ, r, ha, hb, E, h⟩ := h
  unfold cmpD at h
  split at h
  · rename_i e1 e2
    have h1 := repv_int (rd_is r ha e1 (fun _ q => nomatch q)); have h2 := repv_int (rd_is r hb e2 (fun _ q => nomatch q))
    exact op_lt pins s σ H x y v u Q I rx ry ⟨_, _, h1, h2, h.here r repv_of_bl⟩
  · rename_i e1 e2
    have h1 := repv_int (rd_is r ha e1 (fun _ q => nomatch q)); have h2 := repv_int (rd_is r hb e2 (fun _ q => nomatch q))
    exact op_le pins s σ H x y v u Q I rx ry ⟨_, _, h1, h2, h.here r repv_of_bl⟩
  · rename_i e1 e2
    have h1 := repv_int (rd_is r ha e1 (fun _ q => nomatch q)); have h2 := repv_int (rd_is r hb e2 (fun _ q => nomatch q))
    exact op_gt pins s σ H x y v u Q I rx ry ⟨_, _, h1, h2, h.here r repv_of_bl⟩
  · rename_i e1 e2
    have h1 := repv_int (rd_is r ha e1 (fun _ q => nomatch q)); have h2 := repv_int (rd_is r hb e2 (fun _ q => nomatch q))
    exact op_ge pins s σ H x y v u Q I rx ry ⟨_, _, h1, h2, h.here r repv_of_bl⟩
  · split at h
    · rename_i c
      simp only [Bool.and_eq_true, decide_eq_true_eq] at c
      obtain ⟨⟨⟨f1, f2⟩, d1⟩, d2⟩ := c
      obtain ⟨as, q1⟩ := Dp.reads I _ x v (hk ▸ rd_dp r ha f1) rx
      obtain ⟨bs, q2⟩ := Dp.reads I _ y u (hk ▸ rd_dp r hb f2) ry
      refine PySem.SeqAt.eq_plain q1 q2 (plain_py _) (plain_py _) ?_ ⟨.bl _, H, I, rfl, h.here r ?_⟩
      · have := depth_py (rd t a); omega
      · rw [← eqv_py _ _ f1 f2]; exact repv_of_bl
    · split at h
      · rename_i c
        obtain ⟨p, q, xs, ys, rfl, rfl, h1, h2, hn⟩ := len_ne r ha hb c
        cases rx; cases ry
        obtain ⟨its, r1, t1, _⟩ := I.list (SqL.of h1)
        obtain ⟨its2, r2, t2, _⟩ := I.list (SqL.of h2)
        exact PySem.SeqAt.eq_list_lengthsAt t1.isList t2.isList (by have := r1.length; have := r2.length; simp; omega) (by omega) ⟨.bl _, H, I, rfl, h.here r repv_of_bl⟩
      · exact h.elim
  · split at h
    · rename_i c
      simp only [Bool.and_eq_true, decide_eq_true_eq] at c
      obtain ⟨⟨⟨f1, f2⟩, d1⟩, d2⟩ := c
      obtain ⟨as, q1⟩ := Dp.reads I _ x v (hk ▸ rd_dp r ha f1) rx
      obtain ⟨bs, q2⟩ := Dp.reads I _ y u (hk ▸ rd_dp r hb f2) ry
      refine PySem.SeqAt.ne_plain q1 q2 (plain_py _) (plain_py _) ?_ ⟨.bl _, H, I, rfl, h.here r ?_⟩
      · have := depth_py (rd t a); omega
      · rw [← eqv_py _ _ f1 f2]; exact repv_of_bl
    · exact h.elim
  · rename_i e1 e2
    have h1 := repv_str (rd_is r ha e1 (fun _ q => nomatch q)); have h2 := repv_str (rd_is r hb e2 (fun _ q => nomatch q))
    refine op_in_sign pins s σ H x y v u Q I rx ry ⟨_, _, h1, h2, ?_⟩
    rw [← mem_dec]; exact h.here r repv_of_bl
  · rename_i e1 e2
    have h1 := repv_str (rd_is r ha e1 (fun _ q => nomatch q)); have h2 := repv_str (rd_is r hb e2 (fun _ q => nomatch q))
    refine op_notIn_sign pins s σ H x y v u Q I rx ry ⟨_, _, h1, h2, ?_⟩
    rw [← mem_dec]; exact h.here r repv_of_bl
  · rename_i ds e2
    split at h
    · rename_i c
      exact in_data (neg := false) hu hk I rx ry r ha hb (.inl e2) c h
    · exact h.elim
  · rename_i ds e2
    split at h
    · rename_i c
      exact in_data (neg := true) hu hk I rx ry r ha hb (.inl e2) c h
    · exact h.elim
  · rename_i ds e2
    split at h
    · rename_i c
      exact in_data (neg := false) hu hk I rx ry r ha hb (.inr e2) c h
    · exact h.elim
  · rename_i ds e2
    split at h
    · rename_i c
      exact in_data (neg := true) hu hk I rx ry r ha hb (.inr e2) c h
    · exact h.elim
  · rename_i k e2
    have h2 := repv_bl (rd_is r hb e2 (fun _ q => nomatch q))
    refine op_isTF pins s σ H x y v u Q I rx ry ⟨k, h2, ?_⟩
    rw [← isB_rd r ha]; exact h.here r repv_of_bl
  · rename_i k e2
    have h2 := repv_bl (rd_is r hb e2 (fun _ q => nomatch q))
    refine op_notTF pins s σ H x y v u Q I rx ry ⟨k, h2, ?_⟩
    rw [← isB_rd r ha]; exact h.here r repv_of_bl
  · rename_i e2
    have h2 := repv_none (rd_is r hb e2 (fun _ q => nomatch q))
    refine op_isN pins s σ H x y v u Q I rx ry ⟨h2, ?_⟩
    rw [← isN_rd r ha]; exact h.here r repv_of_bl
  · rename_i e2
    have h2 := repv_none (rd_is r hb e2 (fun _ q => nomatch q))
    refine op_notN pins s σ H x y v u Q I rx ry ⟨h2, ?_⟩
    rw [← isN_rd r ha]; exact h.here r repv_of_bl
  · exact h.elim
end
end L3

set_option Elab.async false
set_option linter.all false
set_option autoImplicit false
set_option maxRecDepth 100000
set_option maxHeartbeats 4000000
/-! FkOps2: subscripts, slices, built-in functions by values. -/
namespace L3
open PySem PySem.Spec PyProof.Rows L2 Fk

def rSL (g : G) (f : List D → Fk.St → R D) : List V → Hp → VK → Prop := fun xs H Q => ∃ ds s φ, Rep g H φ s ∧ RepL g H φ ds xs ∧ ∃ E, PostR (RepV g) g H φ (f ds s) Q E
theorem at_eq {α : Type} (xs : List α) (i : Int) : L2.atI xs i = Fk.atI xs i := rfl
theorem sIx_eq (n d : Nat) (o : Option Int) : HT.sIx n d o = Fk.sIx n d o := by cases o <;> rfl
section
variable {X : Cx} {g : G} {H : Hp} {φ : Phi} {s : Fk.St}
theorem RepL.at_ {ds : List D} {vs : List V} {i : Int} {d : D} (h : RepL g H φ ds vs) (e : Fk.atI ds i = some d) : ∃ v, L2.atI vs i = some v ∧ RepV g H φ d v := by
  unfold Fk.atI at e
  unfold L2.atI
  have l := h.length
  cases q : Fk.ixN ds.length i with
  | none => rw [q] at e; cases e
  | some j =>
    rw [q] at e
    obtain ⟨v, h1, h2⟩ := h.get e
    refine ⟨v, ?_, h2⟩
    have q' : L2.ixN vs.length i = some j := by rw [← l]; exact q
    rw [q']; exact h1
theorem at_map {ns : List Int} {i n : Int} (e : Fk.atI ns i = some n) : L2.atI (ns.map V.int) i = some (.int n) := by
  unfold Fk.atI at e
  unfold L2.atI
  rw [List.length_map]
  have q' : L2.ixN ns.length i = Fk.ixN ns.length i := rfl
  rw [q']
  cases q : Fk.ixN ns.length i with
  | none => rw [q] at e; cases e
  | some j =>
    rw [q] at e
    show (ns.map V.int)[j]? = _
    rw [List.getElem?_map]
    have e' : ns[j]? = some n := e
    rw [e']; rfl
theorem zip_look {z : List Nat} {d : D} : ∀ {ks : List (List Nat)} {vs : List D}, (ks.zip vs).lookup z = some d → ∃ i : Nat, ks[i]? = some z ∧ vs[i]? = some d
  | [], _, h => by simp at h
  | _ :: _, [], h => by simp at h
  | k :: ks, v :: vs, h => by
    rw [List.zip_cons_cons, List.lookup_cons] at h
    cases e : z == k with
    | true =>
      rw [e] at h
      cases h
      have := beq_iff_eq.mp e
      subst this
      exact ⟨0, rfl, rfl⟩
    | false =>
      rw [e] at h
      obtain ⟨i, h1, h2⟩ := zip_look h
      exact ⟨i + 1, by simpa using h1, by simpa using h2⟩
theorem ix_sub (hk : g.K = X.K) (hw : g.w = X.w) : IxR X (rS2 g subD) := by
  intro value slice pins s σ H x y v u Q I rx ry h hs
  obtain ⟨a, b, st, φ, r, ha, hb, E, h⟩ := h
  unfold subD at h
  split at h
  · rename_i e1
    obtain ⟨p, vs, h1, h2, h3, _⟩ := rd_lst r ha e1
    have hi := repv_int hb
    split at h
    · rename_i e2
      obtain ⟨w, q1, q2⟩ := h3.at_ e2
      exact ix_list value slice pins s σ H x y v u Q I rx ry ⟨p, vs, _, w, h1, hi, SqL.of h2, q1, h.here r q2⟩ hs
    · exact h.elim
  · rename_i e1
    obtain ⟨p, vs, h1, h2, h3, _⟩ := repv_tup (rd_is r ha e1 (fun _ q => nomatch q))
    have hi := repv_int hb
    split at h
    · rename_i e2
      obtain ⟨w, q1, q2⟩ := h3.at_ e2
      exact ix_tup value slice pins s σ H x y v u Q I rx ry ⟨p, vs, _, w, h1, hi, hk ▸ h2.sq, q1, h.here r q2⟩ hs
    · exact h.elim
  · rename_i e1
    have h1 := repv_str (rd_is r ha e1 (fun _ q => nomatch q))
    have hi := repv_int hb
    split at h
    · rename_i c
      split at h
      · rename_i e2
        exact ix_str value slice pins s σ H x y v u Q I rx ry ⟨_, _, _, h1, hi, by rw [strV_len, ← sl_eq]; exact c, e2, h.here r repv_of_str⟩ hs
      · exact h.elim
    · exact h.elim
  · rename_i e1
    obtain ⟨p, h1, h2, _⟩ := repv_scr (rd_is r ha e1 (fun _ q => nomatch q))
    have hi := repv_int hb
    split at h
    · rename_i e2
      exact ix_list value slice pins s σ H x y v u Q I rx ry ⟨p, _, _, _, h1, hi, hk ▸ h2.sq, at_map e2, h.here r repv_of_int⟩ hs
    · exact h.elim
  · rename_i ks ds z e1
    split at h
    · rename_i d e2
      have q := rd_is r ha e1 (fun _ q => nomatch q)
      unfold RepV at q
      obtain ⟨p, us, h1, ⟨⟨es, n, q1, q2⟩, q3⟩, q4, _⟩ := q
      obtain ⟨i, i1, i2⟩ := zip_look e2
      obtain ⟨vv, v1, v2⟩ := q4.get i2
      obtain ⟨u0, u1, u2⟩ := q3 i _ _ i1 v1
      have hz := repv_str hb
      refine ix_kdict value slice pins s σ H x y v u Q I rx ry ⟨p, _, vv, h1, hz, ⟨es, n, u0, hk ▸ q1, hw ▸ q2, hk ▸ u1, u2⟩, h.here r v2⟩ hs
    · exact h.elim
  · exact h.elim
def rSSl (g : G) (t : Bool) : V → Option Int → Option Int → Hp → VK → Prop := fun x lo hi H Q => ∃ a s φ, Rep g H φ s ∧ RepV g H φ a x ∧ ∃ E, PostR (RepV g) g H φ (slD t a lo hi s) Q E
theorem cut_rep {ds : List D} {vs : List V} (h : RepL g H φ ds vs) (lo hi : Option Int) : RepL g H φ (Fk.cut ds lo hi) (cutV vs lo hi) := by
  unfold Fk.cut cutV
  have l := h.length
  rw [sIx_eq, sIx_eq, ← l]
  exact (h.dropN _).takeN _
theorem sl_sub (t : Bool) (hk : g.K = X.K) : SlR X (rSSl g t) := by
  intro pins s σ H x v vl vu lo hi sl Q I rx hs pl pu h
  obtain ⟨a, st, φ, r, ha, E, h⟩ := h
  simp only [slD] at h
  split at h
  · rename_i e1
    obtain ⟨p, vs, h1, h2, h3, h4⟩ := rd_lst r ha e1
    exact sl_list pins s σ H x v vl vu lo hi sl Q I rx hs pl pu ⟨p, vs, h1, SqL.of h2, fun q hq => new_fin r h (cut_rep h3 lo hi) (Nat.le_trans (cutV_length _ _ _) h4) hq⟩
  · rename_i ds e1
    obtain ⟨p, vs, h1, h2, h3, h4⟩ := repv_tup (rd_is r ha e1 (fun _ q => nomatch q))
    refine sl_tupA pins s σ H x v vl vu lo hi sl Q I rx hs pl pu ⟨p, vs, h1, hk ▸ h2.sq, fun hw => ?_, fun _ q hq => new_tup r h (cut_rep h3 lo hi) (Nat.le_trans (cutV_length _ _ _) h4) hq⟩
    refine h.here r ?_
    have hcut : Fk.cut ds lo hi = ds := by
      obtain ⟨w1, w2⟩ := hw
      rw [sIx_eq, ← h3.length] at w1 w2
      unfold Fk.cut
      rw [w1, w2, List.drop_zero, Nat.sub_zero, List.take_length]
    rw [hcut]
    unfold RepV
    exact ⟨p, vs, rfl, h2, h3, h4⟩
  · rename_i e1
    have h1 := repv_str (rd_is r ha e1 (fun _ q => nomatch q))
    split at h
    · rename_i c
      refine sl_str pins s σ H x v vl vu lo hi sl Q I rx hs pl pu ⟨_, h1, by rw [strV_len, ← sl_eq]; exact c, ?_⟩
      refine h.here r ?_
      have : cutS (strV ‹_›) lo hi = strV (Fk.cut ‹_› lo hi) := by
        unfold cutS Fk.cut strV
        rw [sIx_eq, sIx_eq]
        simp [PySem.Str.length]
      unfold RepV
      rw [this]
    · exact h.elim
  · exact h.elim

/-! ### built-in functions -/
def bltV : Blt → Value
  | .isinst _ => .builtin "isinstance" | .len => .builtin "len" | .all => .builtin "all" | .any => .builtin "any" | .min2 => .builtin "min" | .max2 => .builtin "max"
  | .abs => .builtin "abs" | .int_ => .type "int" | .tuple_ => .type "tuple" | .list_ => .type "list"
theorem repl_1 {d : D} {xs : List V} (h : RepL g H φ [d] xs) : ∃ x, xs = [x] ∧ RepV g H φ d x := by
  unfold RepL at h
  obtain ⟨v, r, rfl, h1, h2⟩ := h
  unfold RepL at h2
  subst h2
  exact ⟨v, rfl, h1⟩
theorem repl_2 {d e : D} {xs : List V} (h : RepL g H φ [d, e] xs) : ∃ x y, xs = [x, y] ∧ RepV g H φ d x ∧ RepV g H φ e y := by
  unfold RepL at h
  obtain ⟨v, r, rfl, h1, h2⟩ := h
  obtain ⟨y, rfl, h3⟩ := repl_1 h2
  exact ⟨v, y, rfl, h1, h3⟩
theorem repl_bools : ∀ {ds : List D} {bs : List Bool} {vs : List V}, RepL g H φ ds vs → mapB ds = some bs → vs = bs.map V.bl
  | [], _, _, h, e => by
    unfold RepL at h; subst h
    have e' : some [] = some _ := e
    cases e'
    rfl
  | d :: ds, bs, vs, h, e => by
    unfold RepL at h
    obtain ⟨v, r, rfl, h1, h2⟩ := h
    unfold mapB at e
    rw [List.mapM_cons] at e
    cases d with
    | bl b =>
      cases q : mapB ds with
      | none => unfold mapB at q; simp [q] at e
      | some cs =>
        have ih := repl_bools h2 q
        unfold mapB at q
        simp [q] at e
        subst e
        rw [repv_bl h1, ih]; rfl
    | _ => simp at e
theorem repl_strs : ∀ {ds : List D} {bs : List (List Nat)} {vs : List V}, RepL g H φ ds vs → strsOf ds = some bs → vs = (bs.map strV).map V.str
  | [], _, _, h, e => by
    unfold RepL at h; subst h
    have e' : some [] = some _ := e
    cases e'
    rfl
  | d :: ds, bs, vs, h, e => by
    unfold RepL at h
    obtain ⟨v, r, rfl, h1, h2⟩ := h
    unfold strsOf at e
    rw [List.mapM_cons] at e
    cases d with
    | str b =>
      cases q : strsOf ds with
      | none => unfold strsOf at q; simp [q] at e
      | some cs =>
        have ih := repl_strs h2 q
        unfold strsOf at q
        simp [q] at e
        subst e
        rw [repv_str h1, ih]; rfl
    | _ => simp at e
/-- the type of a value -/
def tyOf : D → String
  | .none => "NoneType" | .bl _ => "bool" | .int _ => "int" | .str _ => "str" | .tup _ => "tuple" | .lst _ => "list" | .dic _ _ => "dict" | _ => "list"
theorem kits : ∀ a ∈ ["NoneType", "bool", "int", "str", "tuple", "list", "dict"], ∀ b ∈ ["int", "bool", "str", "tuple", "list", "dict"], kitB a b = some (a == b || (a == "bool" && b == "int")) := by decide +kernel
theorem ty_of {a : D} {x : V} {st : Fk.St} (hk : g.K = X.K) (r : Rep g H φ st) (h : RepV g H φ a x) (k : kindKnown st a = true) : TyX X.K H x (.type (tyOf (rd st a))) := by
  unfold kindKnown at k
  cases e : rd st a with
  | lst ds => obtain ⟨p, vs, rfl, h2, _⟩ := rd_lst r h e; exact .base (.lst h2)
  | none => rw [repv_none (rd_is r h e (fun _ z => nomatch z))]; exact .base .non
  | bl b => rw [repv_bl (rd_is r h e (fun _ z => nomatch z))]; exact .base (.bl _)
  | int b => rw [repv_int (rd_is r h e (fun _ z => nomatch z))]; exact .base (.int _)
  | str b => rw [repv_str (rd_is r h e (fun _ z => nomatch z))]; exact .base (.str _)
  | tup ds =>
    obtain ⟨p, vs, rfl, h2, _⟩ := repv_tup (rd_is r h e (fun _ z => nomatch z))
    rcases h2 with ⟨o, its, n, q1, q2, _⟩ | ⟨_, q⟩
    · rw [hk] at q1; exact .kTuple q1 q2
    · exact .base (.tup q)
  | dic ks vs =>
    have q := rd_is r h e (fun _ z => nomatch z)
    unfold RepV at q
    obtain ⟨p, kvs, rfl, _, q⟩ := q
    exact .base (.dK q)
  | ref i => rw [e] at k; cases k
  | fn i => rw [e] at k; cases k
  | ty i => rw [e] at k; cases k
  | set i => rw [e] at k; cases k
  | scr i => rw [e] at k; cases k
  | tab _ _ => rw [e] at k; cases k
theorem isT_kit {a : D} {st : Fk.St} {t : Nat} (k : kindKnown st a = true) (ht : t < 6) : kitB (tyOf (rd st a)) (tyName t) = some (isT st t a) := by
  unfold kindKnown at k
  have hb : tyName t ∈ ["int", "bool", "str", "tuple", "list", "dict"] := by
    match t, ht with
    | 0, _ => decide
    | 1, _ => decide
    | 2, _ => decide
    | 3, _ => decide
    | 4, _ => decide
    | 5, _ => decide
  unfold isT
  cases e : rd st a with
  | ref i => rw [e] at k; cases k
  | fn i => rw [e] at k; cases k
  | ty i => rw [e] at k; cases k
  | set i => rw [e] at k; cases k
  | scr i => rw [e] at k; cases k
  | tab _ _ => rw [e] at k; cases k
  | _ =>
    rw [kits _ (by simp [tyOf]) _ hb]
    match t, ht with
    | 0, _ => rfl
    | 1, _ => rfl
    | 2, _ => rfl
    | 3, _ => rfl
    | 4, _ => rfl
    | 5, _ => rfl
theorem call_blt (b : Blt) (t : Bool) (hc : X.calm = true) (hk : g.K = X.K) (hb : ∀ k, b = .isinst k → k < 6) : CallR X (bltV b) (rSL g (bltD b t)) := by
  intro pins s σ H xs us Q I r h
  obtain ⟨ds, st, φ, rp, rl, E, h⟩ := h
  unfold bltD at h
  split at h
  · rename_i k d k'
    split at h
    · rename_i c
      obtain ⟨rfl, c⟩ := c
      obtain ⟨x, y, rfl, h1, h2⟩ := repl_2 rl
      have h2' : y = .ty (tyName k) := by unfold RepV at h2; exact h2
      subst h2'
      exact call_isi pins s σ H _ us Q I r ⟨x, _, _, _, _, rfl, .ty _, ty_of hk rp h1 c, kit_ty (isT_kit c (hb k rfl)), h.here rp repv_of_bl⟩
    · exact h.elim
  · obtain ⟨x, rfl, h1⟩ := repl_1 rl
    split at h
    · rename_i e1
      obtain ⟨p, vs, rfl, q2, q3, _⟩ := rd_lst rp h1 e1
      have l := q3.length
      exact call_len pins s σ H _ us Q I r ⟨_, _, rfl, .inl ⟨vs, SqL.of q2, rfl⟩, by rw [← l]; exact h.here rp repv_of_int⟩
    · rename_i e1
      obtain ⟨p, vs, rfl, q2, q3, _⟩ := repv_tup (rd_is rp h1 e1 (fun _ z => nomatch z))
      have l := q3.length
      exact call_len pins s σ H _ us Q I r ⟨_, _, rfl, .inr ⟨vs, hk ▸ q2.sq, rfl⟩, by rw [← l]; exact h.here rp repv_of_int⟩
    · rename_i e1
      have q := repv_str (rd_is rp h1 e1 (fun _ z => nomatch z))
      subst q
      split at h
      · rename_i c
        exact call_len pins s σ H _ us Q I r ⟨_, _, rfl, ⟨by rw [strV_len, ← sl_eq]; exact c, rfl⟩, by rw [strV_len]; exact h.here rp repv_of_int⟩
      · exact h.elim
    · rename_i e1
      obtain ⟨p, rfl, q2, _⟩ := repv_scr (rd_is rp h1 e1 (fun _ z => nomatch z))
      exact call_len pins s σ H _ us Q I r ⟨_, _, rfl, .inl ⟨_, hk ▸ q2.sq, rfl⟩, by rw [List.length_map]; exact h.here rp repv_of_int⟩
    · exact h.elim
  · obtain ⟨x, rfl, h1⟩ := repl_1 rl
    split at h
    · rename_i e1
      obtain ⟨p, vs, rfl, q2, q3, _⟩ := rd_lst rp h1 e1
      split at h
      · rename_i bs e2
        have q := repl_bools q3 e2
        subst q
        exact cr_all hc pins s σ H _ us Q I r ⟨p, bs, rfl, SqL.of q2, h.here rp repv_of_bl⟩
      · exact h.elim
    · exact h.elim
  · obtain ⟨x, rfl, h1⟩ := repl_1 rl
    split at h
    · rename_i e1
      obtain ⟨p, vs, rfl, q2, q3, _⟩ := rd_lst rp h1 e1
      split at h
      · rename_i bs e2
        have q := repl_bools q3 e2
        subst q
        exact cr_any hc pins s σ H _ us Q I r ⟨p, bs, rfl, SqL.of q2, h.here rp repv_of_bl⟩
      · exact h.elim
    · exact h.elim
  · obtain ⟨x, y, rfl, h1, h2⟩ := repl_2 rl
    exact call_min2 hc pins s σ H _ us Q I r ⟨_, _, by rw [repv_int h1, repv_int h2], h.here rp repv_of_int⟩
  · obtain ⟨x, y, rfl, h1, h2⟩ := repl_2 rl
    exact call_max2 hc pins s σ H _ us Q I r ⟨_, _, by rw [repv_int h1, repv_int h2], h.here rp repv_of_int⟩
  · obtain ⟨x, rfl, h1⟩ := repl_1 rl
    exact call_abs pins s σ H _ us Q I r ⟨_, by rw [repv_int h1], h.here rp repv_of_int⟩
  · obtain ⟨x, rfl, h1⟩ := repl_1 rl
    exact call_int1 pins s σ H _ us Q I r (.inl ⟨_, by rw [repv_int h1], h.here rp repv_of_int⟩)
  · obtain ⟨x, rfl, h1⟩ := repl_1 rl
    exact call_int1 pins s σ H _ us Q I r (.inr ⟨_, by rw [repv_bl h1], h.here rp repv_of_int⟩)
  · obtain ⟨x, rfl, h1⟩ := repl_1 rl
    split at h
    · rename_i e1
      obtain ⟨p, vs, rfl, q2, q3, q4⟩ := rd_lst rp h1 e1
      exact call_tuple_of pins s σ H _ us Q I r ⟨p, vs, rfl, .inl ⟨SqL.of q2, fun l hl => new_tup rp h q3 q4 hl⟩⟩
    · rename_i e1
      have q := rd_is rp h1 e1 (fun _ z => nomatch z)
      obtain ⟨p, vs, rfl, q2, q3, _⟩ := repv_tup q
      exact call_tuple_of pins s σ H _ us Q I r ⟨p, vs, rfl, .inr ⟨hk ▸ q2.sq, h.here rp q⟩⟩
    · exact h.elim
  · obtain ⟨x, rfl, h1⟩ := repl_1 rl
    split at h
    · rename_i e1
      obtain ⟨p, vs, rfl, q2, q3, q4⟩ := rd_lst rp h1 e1
      exact call_list_of pins s σ H _ us Q I r ⟨p, vs, rfl, .inl (SqL.of q2), fun l hl => new_fin rp h q3 q4 hl⟩
    · rename_i e1
      obtain ⟨p, vs, rfl, q2, q3, q4⟩ := repv_tup (rd_is rp h1 e1 (fun _ z => nomatch z))
      exact call_list_of pins s σ H _ us Q I r ⟨p, vs, rfl, .inr (hk ▸ q2.sq), fun l hl => new_fin rp h q3 q4 hl⟩
    · exact h.elim
  · exact h.elim

/-! ### methods of texts -/
theorem join_eq (a : List Nat) : ∀ ys : List (List Nat), PySem.Txt.join (strV a) (ys.map strV) = strV (joinT a ys) := by
  intro ys
  show Builtin.Str.glued _ _ = _
  rw [PySem.StrLaws.glued_eq_join]
  induction ys with
  | nil => rfl
  | cons y ys ih =>
    cases ys with
    | nil => rfl
    | cons z r =>
      show strV y ++ strV a ++ PySem.Str.join (strV a) (List.map strV (z :: r)) = strV (y ++ a ++ joinT a (z :: r))
      rw [ih, strV_app, strV_app]
theorem lenSum_eq (n : Nat) : ∀ ys : List (List Nat), ((ys.map strV).map (·.length)).sum + (ys.map strV).length * n = lenSum n ys
  | [] => by simp [lenSum]
  | y :: ys => by
    have ih := lenSum_eq n ys
    simp only [List.map_cons, List.sum_cons, List.length_cons, lenSum, strV_len] at ih ⊢
    rw [Nat.add_mul]
    omega
end
end L3

set_option Elab.async false
set_option linter.all false
set_option autoImplicit false
set_option maxRecDepth 100000
set_option maxHeartbeats 4000000
/-! FkStar: a, b, *rest = a tuple. -/
namespace L3
open PySem PySem.Spec PyProof.Rows L2

/-- a tuple's iterator, from a place on -/
theorem walks_from {prog : Program} {w : World} {A : Around} (hh : A.handled = none) (I ax : Addr) (hne : ax ≠ I) (items : Array Value) (k : Nat) (hk : k ≤ items.size) :
    Walks prog w A I [I, ax] [I] (items.size - k) (fun i v => items[k + i]? = some v) (fun i h => h.IsTupleIter I ax (k + i) ∧ h.IsTuple ax items) :=
  let W := Walks.tuple (prog := prog) (w := w) (A := A) hh I ax hne items
  { sub := W.sub
    frame := fun i h h' st e => W.frame (k + i) h h' st e
    item := fun i s Q E hi st hQ => W.item (k + i) s Q E (by omega) st fun v h' tk p st' e => hQ v h' tk p st' e
    done := fun s Q E st hQ => W.done s Q E (by have : k + (items.size - k) = items.size := by omega
                                                rw [← this]; exact st) hQ
    self := fun i s Q E st hQ => W.self (k + i) s Q E st hQ }
theorem items_drop {items : Array Value} {k : Nat} {acc : Array Value} (hk : k ≤ items.size) (h : ItemsOf (fun i v => items[k + i]? = some v) acc (items.size - k)) : acc.toList = items.toList.drop k := by
  obtain ⟨h1, h2⟩ := h
  refine List.ext_getElem? fun j => ?_
  rw [List.getElem?_drop]
  by_cases hj : j < acc.size
  · have e : acc[j]? = some acc[j] := Array.getElem?_eq_getElem hj
    have q := h2 j _ e
    have e1 : acc.toList[j]? = some acc[j] := by rw [Array.getElem?_toList]; exact e
    have e2 : items.toList[k + j]? = items[k + j]? := Array.getElem?_toList
    rw [e1, e2, q]
  · rw [List.getElem?_eq_none (by simpa using hj), List.getElem?_eq_none (by simp; omega)]
theorem unpack_star {prog : Program} {w : World} {A : Around} {E : Value → Shared → Prop} {s : Shared} {t : Addr} {items : Array Value} {k : Nat} {Q : List Value → Shared → Prop} (hh : A.handled = none) (ht : IsTup s.heap t items) (hk : k ≤ items.size) (hz : items.size ≤ sizeLine)
    (hQ : ∀ (h' : Heap) (tk : Nat), (∀ b o, s.heap.get? b = some o → h'.get? b = some o) → Q (items.toList.take k ++ [.ref h'.objs.size]) { s with heap := h'.push { cls := .type "list", data := .seq (items.toList.drop k).toArray }, toks := tk }) :
    wpAny (model prog w) A (unpackItems (.ref t) (k + 1) (some k)) Q E s := by
  have hlt : t ≠ s.heap.objs.size := by obtain ⟨o, ho, _⟩ := ht; exact Nat.ne_of_lt (Heap.lt_size ho)
  unfold unpackItems
  refine wpAny_bind ?_
  unfold notIterableAtAll
  refine wpAny_bind (wpAny_specialOf ht.typeIs slot_tuple_iter.lookup ?_)
  refine wpAny_pure ?_
  simp only [Bool.false_eq_true, if_false]
  refine wpAny_bind (wpAny_holding (iter_tuple ht ?_))
  refine wpAny_bind (wpAny_holding (draw_tuple hlt k 0 _ _ ⟨_, Heap.get?_push_size _ rfl, rfl, rfl⟩ (ht.push _) (by omega) fun h1 hit1 hs1 => ?_))
  have hlen : ((items.toList.drop 0).take k).length = k := by rw [List.drop_zero, List.length_take]; simp; omega
  rw [if_neg (by rw [hlen]; exact Nat.lt_irrefl _)]
  have ht1 : IsTup h1 t items := (ht.push _).extBut hs1.extBut hlt
  have keep1 : ∀ b o, s.heap.get? b = some o → h1.get? b = some o := fun b o e => hs1.extBut b o (Nat.ne_of_lt (Heap.lt_size e)) (Heap.get?_push_of_some _ e)
  have W := (walks_from (prog := prog) (w := w) (A := A.in1) hh s.heap.objs.size t hlt items k hk).toS
  refine wpAny_bind (wpAny_holding (wpAny_collect_iter (T := "tuple_iterator") (.inr (.inr (.inr rfl))) W (fun i s' st => ?_) ⟨?_, ?_⟩ (fun b hb => ?_) List.mem_cons_self (fun s' acc hm hi => ?_) (by omega)))
  · obtain ⟨⟨o, e1, e2, _⟩, _⟩ := st
    exact ⟨o, e1, e2⟩
  · exact (by simpa using hit1 : IsTupIter h1 s.heap.objs.size t k)
  · exact ht1
  · obtain ⟨o, e1, _⟩ := hit1
    obtain ⟨o2, e2, _⟩ := ht1
    rcases List.mem_cons.mp hb with rfl | hb
    · exact Heap.lt_size e1
    · rw [List.mem_singleton] at hb
      subst hb
      exact Heap.lt_size e2
  · have hacc := items_drop hk hi
    rw [hacc]
    have m0 : k + 1 - 1 - k = 0 := by omega
    simp only [m0, Nat.not_lt_zero, if_false, Nat.sub_zero, List.take_length, List.drop_length, List.append_nil]
    refine wpAny_bind (wpAny_newList (wpAny_pure ?_) (by rw [List.length_drop]; simp; omega))
    obtain ⟨m1, m2, m3, m4, m5⟩ := hm
    obtain ⟨hh', gg', dd', tt', oo'⟩ := s'
    have m2' : gg' = s.gens := m2
    have m3' : dd' = s.drawn := m3
    have m4' : oo' = s.os := m4
    subst m2' m3' m4'
    have keep2 : ∀ b o, s.heap.get? b = some o → hh'.get? b = some o := fun b o e => m1 b o (by
      rw [List.mem_singleton]
      exact Nat.ne_of_lt (Heap.lt_size e)) (keep1 b o e)
    exact hQ hh' tt' keep2
def unstar : List Expr → Option (List Expr)
  | [] => none
  | [.Starred e _] => some [e]
  | e :: es => (match e with
    | .Starred .. => none
    | e => (unstar es).map (e :: ·))
theorem each_cons {e : Expr} {es : List Expr} {env : PySem.Env} (h : ∀ x p, e ≠ .Starred x p) : assignEach (e :: es) env = (false, assign e env) :: assignEach es env := by
  cases e <;> first | rfl | (exact absurd rfl (h _ _))
theorem unstar_each {env : PySem.Env} : ∀ {es es' : List Expr}, unstar es = some es' → (∀ e ∈ es', ∀ x p, e ≠ .Starred x p) → (assignEach es env).map (·.2) = (assignEach es' env).map (·.2) ∧ es.length = es'.length ∧ (assignEach es env).length = es'.length ∧ 0 < es'.length ∧ (assignEach es env).findIdx? (·.1) = some (es'.length - 1)
  | [], _, h, _ => by cases h
  | [e], es', h, hn => by
    cases e with
    | Starred x p =>
      have h' : some [x] = some es' := h
      cases h'
      have e2 : assignEach [x] env = [(false, assign x env)] := each_cons (hn x (by simp))
      have e1 : assignEach [.Starred x p] env = [(true, assign x env)] := rfl
      rw [e1, e2]
      exact ⟨rfl, rfl, rfl, by simp, by simp⟩
    | _ => cases h
  | e :: e2 :: es, es', h, hn => by
    have hs : ∀ x p, e ≠ .Starred x p := by
      rintro x p rfl
      cases h
    have h' : (unstar (e2 :: es)).map (e :: ·) = some es' := by
      cases e <;> first | exact h | (exact absurd rfl (hs _ _))
    cases q : unstar (e2 :: es) with
    | none => rw [q] at h'; cases h'
    | some r =>
      rw [q] at h'
      cases h'
      obtain ⟨h1, h2, h3, h4, h5⟩ := unstar_each (env := env) q fun e he => hn e (List.mem_cons_of_mem _ he)
      rw [each_cons hs, each_cons hs]
      refine ⟨by simp [h1], by simp [h2], by simp [h3], by simp, ?_⟩
      rw [List.findIdx?_cons]
      simp only [Bool.false_eq_true, if_false, h5, Option.map_some, List.length_cons]
      congr 1
      omega
/-- (a, .., *rest) = a tuple of that length at least -/
def gStar (K : PySem.W.Frag) (n : Nat) (t : TGs) : TG := fun v σ H Q => ∃ a xs, v = .ref a ∧ SqT K H a xs ∧ n ≤ xs.length ∧ ∀ p, H p = none → t (xs.take n ++ [.ref p]) σ (upd H p (.lst (xs.drop n))) Q
theorem pg_star {X : Cx} {es es' : List Expr} {k : Nat} {pos : Pos} {t : TGs} {n : Nat} (hc : X.calm = true) (hu : unstar es = some es') (hn : ∀ e ∈ es', ∀ x p, e ≠ .Starred x p) (hl : es'.length = n + 1) (h : PGs X es' t) : PG X (.Tuple es k pos) (gStar X.K n t) := by
  refine ⟨fun pins s σ H v u Q I r hw => ?_⟩
  obtain ⟨a, xs, rfl, hq, hz, hw⟩ := hw
  cases r
  obtain ⟨its, rv, ht, hsz⟩ := I.tuple hq
  obtain ⟨h1, h2, h3, h4, h5⟩ := unstar_each (env := X.env) hu hn
  have hlen := rv.length
  rw [assign_Tuple]
  refine wpAny_bind (wpAny_standAt ?_)
  unfold unpack
  rw [h1, h3, h5, hl]
  refine wpAny_bind (wpAny_holding (unpack_star (I.ok.hd hc) ht (by simp; omega) (by simp; omega) fun h' tk keep => ?_))
  have I1 : Inv X pins σ H { s with heap := h', toks := tk } := I.kept keep
  have hd : Vals (xs.drop n) (its.drop n) := rv.drop n
  have hn' := I1.hok.fresh (Nat.le_refl h'.objs.size)
  have I2 := I1.laid (a := h'.objs.size) (o := .lst (xs.drop n)) (h' := h'.push { cls := .type "list", data := .seq (its.drop n).toArray }) (t' := tk) (fun _ _ q => Heap.get?_push_of_some _ q) (Nat.le_refl _) ⟨by rw [List.length_drop]; omega, its.drop n, 0, hd, Heap.get?_push_size _ rfl⟩
  have rv2 : Vals (xs.take n ++ [.ref h'.objs.size]) (its.take n ++ [.ref h'.objs.size]) := (rv.take n).append (.cons rfl .nil)
  have z := h.run pins _ σ _ _ _ Q I2 rv2 (hw _ hn')
  simpa using z
/-! ### t[::-1] -/
theorem fm_congr {α β : Type} {f g : α → Option β} : ∀ (l : List α), (∀ x ∈ l, f x = g x) → l.filterMap f = l.filterMap g
  | [], _ => rfl
  | a :: l, h => by
    rw [List.filterMap_cons, List.filterMap_cons, h a List.mem_cons_self, fm_congr l fun x hx => h x (List.mem_cons_of_mem _ hx)]
theorem rev_pick (xs : Array Value) : ((List.range xs.size).filterMap fun (m : Nat) => xs[(((xs.size : Int) - 1) + (m : Int) * -1).toNat]?).toArray = xs.toList.reverse.toArray := by
  congr 1
  have h := PySem.W.krv_all xs.toList.reverse.toArray
  have e : (List.range xs.size).filterMap (fun (m : Nat) => xs[(((xs.size : Int) - 1) + (m : Int) * -1).toNat]?) = (List.range xs.toList.reverse.toArray.size).filterMap (xs.toList.reverse.toArray[·]?) := by
    have hs : xs.toList.reverse.toArray.size = xs.size := by simp
    rw [hs]
    refine fm_congr _ fun m hm => ?_
    have hm' : m < xs.size := List.mem_range.mp hm
    have i1 : (((xs.size : Int) - 1) + (m : Int) * -1).toNat = xs.size - 1 - m := by omega
    rw [i1]
    simp only [List.getElem?_toArray]
    rw [List.getElem?_reverse (by simpa using hm')]
    simp
  rw [e, h]
theorem sliceApplied_rev {prog : Program} {w : World} {A : Around} {E : Value → Shared → Prop} {s : Shared} {sl : Addr} {vl vu vs : Value} {n : Nat} {Q : Int × Int × Nat → Shared → Prop} (hs : s.heap.IsSliceOf sl vl vu vs) (pl : IsPart vl none) (pu : IsPart vu none) (ps : IsPart vs (some (-1)))
    (h : Q ((n : Int) - 1, -1, n) s) : wpAny (model prog w) A (Builtin.Slice.sliceApplied (.ref sl) (pure (n : Int))) Q E s := by
  obtain ⟨os, hos, hcs, hds⟩ := id hs
  unfold Builtin.Slice.sliceApplied Builtin.Slice.sliceFields
  refine wpAny_bind (wpAny_bind (wpAny_field hos hds (x := vl) rfl (wpAny_bind (wpAny_field hos hds (x := vu) rfl (wpAny_bind (wpAny_field hos hds (x := vs) rfl (wpAny_pure ?_)))))))
  refine wpAny_bind (HT.slicePart_ ps ?_)
  show wpAny _ _ (if ((-1 : Int) == 0) = true then _ else _) _ _ s
  rw [if_neg (by decide)]
  refine wpAny_bind (HT.slicePart_ pl (wpAny_bind (HT.slicePart_ pu (wpAny_bind (wpAny_pure ?_)))))
  show wpAny _ _ (match Builtin.Slice.sliceAdjust none none (-1) (n : Int) with | (lo, hi) => pure (lo, (-1 : Int), Builtin.Slice.slicePlaces lo hi (-1))) _ _ s
  have e1 : Builtin.Slice.sliceAdjust none none (-1) (n : Int) = ((n : Int) - 1, -1) := rfl
  rw [e1]
  show wpAny _ _ (pure ((n : Int) - 1, (-1 : Int), Builtin.Slice.slicePlaces ((n : Int) - 1) (-1) (-1))) _ _ s
  have e2 : Builtin.Slice.slicePlaces ((n : Int) - 1) (-1) (-1) = n := by
    unfold Builtin.Slice.slicePlaces
    have h1 : ¬ ((-1 : Int) > 0) := by omega
    simp only [h1, if_false]
    rw [show (- -1 : Int) = 1 from rfl, Int.ediv_one]
    split <;> omega
  rw [e2]
  exact wpAny_pure h
theorem getItem_tuple_rev {prog : Program} {w : World} {A : Around} {E : Value → Shared → Prop} {s : Shared} {t sl : Addr} {items : Array Value} {vl vu vs : Value} {Q : Value → Shared → Prop} (ht : IsTup s.heap t items) (hs : s.heap.IsSliceOf sl vl vu vs) (pl : IsPart vl none) (pu : IsPart vu none) (ps : IsPart vs (some (-1)))
    (h : Q (.ref s.heap.objs.size) { s with heap := s.heap.push { cls := .type "tuple", data := .seq items.toList.reverse.toArray } }) (hsz : items.size ≤ sizeLine) : wpAny (model prog w) A (getItem (.ref t) (.ref sl)) Q E s := by
  have htake : sizeOk (.seq items.toList.reverse.toArray) := by
    show items.toList.reverse.toArray.size ≤ sizeLine
    simpa using hsz
  obtain ⟨os, hos, hcs, hds⟩ := id hs
  have hTs : s.TypeIs (.ref sl) "slice" := ⟨os, hos, hcs⟩
  unfold getItem
  try with_reducible refine wpAny_holding ?_
  first | refine wpAny_bind (wpAny_pure ?_) | skip
  refine wpAny_bind (wpAny_sequenceKey ht.typeIs (by decide) ?_)
  refine wpAny_bind (wpAny_callSpecial?_slot (name := Str.ofString "__getitem__") ht.typeIs PyProof.Rows.slot_tuple_getitem
    (wpAny_call_entry PyProof.Rows.slot_tuple_getitem ht.typeIs entry_tuple_getitem ?_ (args_tuple_getitem _ _)))
  show wpAny _ _ (Builtin.Tuple.tupleItemsOf (.ref t) >>= _) _ _ s
  refine wpAny_bind (tupleItemsOf_ ht ?_)
  refine wpAny_bind (wpAny_typeOf hTs ?_)
  rw [if_pos (by decide)]
  refine wpAny_bind (sliceApplied_rev hs pl pu ps ?_)
  have hno : ¬ ((((items.size : Int) - 1) == 0 && (-1 : Int) == 1 && items.size == items.size) = true) := by
    intro q
    rw [Bool.and_eq_true, Bool.and_eq_true] at q
    exact absurd q.1.2 (by decide)
  show wpAny _ _ (if (((items.size : Int) - 1) == 0 && (-1 : Int) == 1 && items.size == items.size) = true then _ else _) _ _ s
  rw [if_neg hno, rev_pick]
  first
    | exact wpAny_bind (m := Builtin.Tuple.tupleExact _) (wpAny_newObj_type (wpAny_pure ⟨_, rfl, wpAny_pure h⟩) htake)
    | exact wpAny_bind (m := Builtin.Tuple.tupleExact _) (wpAny_newObj_type (wpAny_bind (wpAny_pure (wpAny_pure ⟨_, rfl, wpAny_pure h⟩))) htake)
    | exact wpAny_bind (wpAny_bind (m := Builtin.Tuple.tupleExact _) (wpAny_newObj_type (wpAny_pure (wpAny_pure ⟨_, rfl, wpAny_pure h⟩)) htake))
    | exact wpAny_bind (wpAny_bind (m := Builtin.Tuple.tupleExact _) (wpAny_newObj_type (wpAny_pure ⟨_, rfl, wpAny_pure h⟩) htake))
def tRev (K : PySem.W.Frag) (te : TE) : TE := fun σ H Q => te σ H fun x H1 => ∃ a xs, x = .ref a ∧ ((SqL K H1 a xs ∧ ∀ p, H1 p = none → Q (.ref p) (upd H1 p (.lst xs.reverse))) ∨ (SqT K H1 a xs ∧ ∀ p, H1 p = none → Q (.ref p) (upd H1 p (.tup xs.reverse))))
theorem pe_rev {X : Cx} {te : TE} {e : Expr} {k : Nat} {p1 p2 p3 pos : Pos} (he : PE X e te) : PE X (.Subscript e (.Slice none none (some (.UnaryOp .USub (.Constant (.int 1) k p1) p2)) p3) pos) (tRev X.K te) := by
  refine ⟨fun pins s σ H Q I h => ?_⟩
  refine Subscript_ (thn (he.run pins s σ H _ I h) fun v s1 ⟨x, H1, I1, r1, q1⟩ => ?_)
  obtain ⟨a, xs, ex, q⟩ := q1
  subst ex
  cases r1
  have hst : PO X (some (.UnaryOp .USub (.Constant (.int 1) k p1) p2)) (tPart (tUn (rU fun i => .int (-i)) (tC (.int 1)))) := po_some (pe_un un_neg pe_int)
  refine wpAny_Slice (thn (po_none.run pins s1 σ H1 (fun o H2 => o = none ∧ H2 = H1) I1 ⟨rfl, rfl⟩) fun vl s2 ⟨l, H2, I2, pl, el, e2⟩ => ?_)
  subst el e2
  refine thn (po_none.run pins s2 σ H2 (fun o H3 => o = none ∧ H3 = H2) I2 ⟨rfl, rfl⟩) fun vu s3 ⟨u, H3, I3, pu, eu, e3⟩ => ?_
  subst eu e3
  refine thn (hst.run pins s3 σ H3 (fun o H4 => o = some (-1) ∧ H4 = H3) I3 ⟨1, rfl, -1, rfl, rfl, rfl⟩) fun vs s4 ⟨o, H4, I4, ps, eo, e4⟩ => ?_
  subst eo e4
  have I5 : Inv X pins σ H4 { s4 with heap := s4.heap.push { cls := .type "slice", data := .fields #[vl, vu, vs] } } := I4.kept (t' := s4.toks) fun b ob q => Heap.get?_push_of_some _ q
  show wpAny (model X.prog X.w) X.A (subscriptTail e (.Slice none none (some (.UnaryOp .USub (.Constant (.int 1) k p1) p2)) p3) (.ref a) (.ref s4.heap.objs.size)) (EP X pins σ Q) X.xe { s4 with heap := s4.heap.push { cls := .type "slice", data := .fields #[vl, vu, vs] } }
  rcases q with ⟨hx, q⟩ | ⟨hx, q⟩
  · obtain ⟨its, r, ht, hz⟩ := I5.list hx
    have hlen := r.length
    refine tail_any (ops := [.ref a, .ref s4.heap.objs.size]) ht.isList.typeIs (PySem.slot_list_getitem.lookup) ?_ (by with_unfolding_all rfl)
    refine wpAny_getItem_list_slice ht.isList (Heap.IsSliceOf.new _ vl vu vs) pl pu ps (by decide) ?_ (by rw [List.size_toArray]; omega)
    rw [PySem.W.krv_pick]
    refine ⟨.ref _, _, I5.laid (t' := s4.toks) (o := .lst xs.reverse) (fun b ob q => Heap.get?_push_of_some _ q) (Nat.le_refl _) ?_, rfl, q _ (I5.hok.fresh (Nat.le_refl _))⟩
    exact ⟨by rw [List.length_reverse]; exact hz, _, 0, r.reverse, Heap.get?_push_size _ rfl⟩
  · obtain ⟨its, r, ht, hz⟩ := I5.tuple hx
    have hlen := r.length
    refine tail_any (ops := [.ref a, .ref s4.heap.objs.size]) ht.typeIs (PyProof.Rows.slot_tuple_getitem.lookup) ?_ (by with_unfolding_all rfl)
    refine getItem_tuple_rev ht (Heap.IsSliceOf.new _ vl vu vs) pl pu ps ?_ (by simp; omega)
    refine ⟨.ref _, _, I5.laid (t' := s4.toks) (o := .tup xs.reverse) (fun b ob q => Heap.get?_push_of_some _ q) (Nat.le_refl _) ?_, rfl, q _ (I5.hok.fresh (Nat.le_refl _))⟩
    exact ⟨by rw [List.length_reverse]; exact hz, _, r.reverse, ⟨_, Heap.get?_push_size _ rfl, rfl, _, rfl⟩⟩
end L3

set_option Elab.async false
set_option linter.all false
set_option autoImplicit false
set_option maxRecDepth 100000
set_option maxHeartbeats 4000000
/-! FkIter: what a loop walks; comprehensions. -/
namespace L3
open PySem PySem.Spec PyProof.Rows L2 Fk

theorem _root_.L2.PE.imp {X : Cx} {e : Expr} {t t' : TE} (h : PE X e t) (k : ∀ σ H Q, t' σ H Q → t σ H Q) : PE X e t' := ⟨fun pins s σ H Q I q => h.run pins s σ H Q I (k σ H Q q)⟩
theorem _root_.L2.PT.imp {X : Cx} {e : Expr} {t t' : TT} (h : PT X e t) (k : ∀ σ H Q, t' σ H Q → t σ H Q) : PT X e t' := ⟨fun pins s σ H Q I q => h.run pins s σ H Q I (k σ H Q q)⟩
theorem _root_.L2.PA.imp {X : Cx} {e : List Expr} {t t' : TA} (h : PA X e t) (k : ∀ σ H Q, t' σ H Q → t σ H Q) : PA X e t' := ⟨fun pos pins s σ H Q I q => h.run pos pins s σ H Q I (k σ H Q q)⟩
theorem _root_.L2.PI.imp {X : Cx} {tg e : Expr} {t t' : TI} (h : PI X tg e t) (k : ∀ σ H Q, t' σ H Q → t σ H Q) : PI X tg e t' := ⟨fun pins s σ H Q I q => h.run pins s σ H Q I (k σ H Q q)⟩
theorem _root_.L2.PS.imp {X : Cx} {e : Stmt} {t t' : TS} (h : PS X e t) (k : ∀ D σ H, t' D σ H → t D σ H) : PS X e t' := ⟨fun pins s σ H D I q => h.run pins s σ H D I (k D σ H q)⟩
theorem _root_.L2.PSs.imp {X : Cx} {e : List Stmt} {t t' : TS} (h : PSs X e t) (k : ∀ D σ H, t' D σ H → t D σ H) : PSs X e t' := ⟨fun pins s σ H D I q => h.run pins s σ H D I (k D σ H q)⟩

/-- the walk J yields the items, whatever comes beside -/
structure Walk (g : G) (J : It) (items : List D) (H : Hp) (φ : Phi) : Prop where
  go : ∀ i H' φ', Ext H φ H' φ' → i < items.length → J.go i H'
  stop : ∀ i H' φ', Ext H φ H' φ' → items.length ≤ i → J.stop i H'
  yld : ∀ i H' φ' s x H2, i < items.length → Ext H φ H' φ' → Rep g H' φ' s → J.yld i H' x H2 → ∃ d φ2, items[i]? = some d ∧ Ext H' φ' H2 φ2 ∧ Rep g H2 φ2 s ∧ RepV g H2 φ2 d x
theorem Walk.ext {g : G} {J : It} {items : List D} {H H' : Hp} {φ φ' : Phi} (w : Walk g J items H φ) (x : Ext H φ H' φ') : Walk g J items H' φ' :=
  ⟨fun i H2 φ2 y => w.go i H2 φ2 (x.trans y), fun i H2 φ2 y => w.stop i H2 φ2 (x.trans y), fun i H2 φ2 s v H3 hi y => w.yld i H2 φ2 s v H3 hi (x.trans y)⟩
def tI (g : G) (W : WX) (m : Fk.Env → Fk.St → R (List D)) : TI := fun σ H Q => ∃ env s φ, RepE g H φ env σ ∧ Rep g H φ s ∧ PostR (fun H φ items J => Walk g J items H φ ∧ items.length ≤ PySem.sizeLine) g H φ (m env s) Q (fun c d H => W c d σ H)
def tR {α β : Type} (ρ : Hp → Phi → α → β → Prop) (g : G) (W : WX) (m : Fk.Env → Fk.St → R α) : L2.St → Hp → (β → Hp → Prop) → Prop :=
  fun σ H Q => ∃ env s φ, RepE g H φ env σ ∧ Rep g H φ s ∧ PostR ρ g H φ (m env s) Q (fun c d H => W c d σ H)

/-- list, tuple or text: by what comes -/
def iAny (K : PySem.W.Frag) (tl : TE) : TI := fun σ H R => tl σ H fun x H1 => (∃ a, x = .ref a ∧ (∃ xs, SqL K H1 a xs) ∧ R (Itl K a) H1) ∨ (∃ a, x = .ref a ∧ (∃ xs, SqT K H1 a xs) ∧ R (Itt K a) H1) ∨ (∃ z, x = .str z ∧ R (Its z) H1)
theorem pi_any {X : Cx} {tg l : Expr} {tl : TE} (hl : PE X l tl) : PI X tg l (iAny X.K tl) := by
  refine ⟨fun pins s σ H R I h => ?_⟩
  refine thn (hl.run pins s σ H _ I h) fun v s1 ⟨x, H1, I1, r1, q1⟩ => ?_
  rcases q1 with ⟨a, e, ⟨xs, hq⟩, q⟩ | ⟨a, e, ⟨xs, hq⟩, q⟩ | ⟨x, ex, q⟩
  · subst e
    cases r1
    obtain ⟨its, rv, p, hz⟩ := I1.list hq
    refine wpAny_pyIter_list p.isList ?_
    refine ⟨s1.heap.objs.size, [s1.heap.objs.size], _, _, H1, rfl, I1.kept (t' := s1.toks) fun b o e => Heap.get?_push_of_some _ e, turn_list a _, ⟨_, Heap.get?_push_size _ rfl, rfl, rfl⟩, fun b hb => ?_, q⟩
    have e : b = s1.heap.objs.size := by simpa using hb
    subst e
    exact I1.fpOk (Nat.le_refl _) (I1.hok.fresh (Nat.le_refl _))
  · subst e
    cases r1
    obtain ⟨its, rv, p, hz⟩ := I1.tuple hq
    refine wpAny_pyIter_tuple (show s1.heap.IsTuple a its.toArray from p) ?_
    refine ⟨s1.heap.objs.size, [s1.heap.objs.size], _, _, H1, rfl, I1.kept (t' := s1.toks) fun b o e => Heap.get?_push_of_some _ e, turn_tuple a _, ⟨_, Heap.get?_push_size _ rfl, rfl, rfl⟩, fun b hb => ?_, q⟩
    have e : b = s1.heap.objs.size := by simpa using hb
    subst e
    exact I1.fpOk (Nat.le_refl _) (I1.hok.fresh (Nat.le_refl _))
  · subst ex
    obtain ⟨t, rfl⟩ := r1
    cases ha : x.cps.all (· < 128)
    · exact wpAny_pyIter_wide ha (pi_one (tk := s1.toks) I1 _ (turn_str _ x t "str_iterator" (.inr rfl)) ⟨_, Heap.get?_push_size _ rfl, rfl, rfl⟩ q)
    · exact wpAny_pyIter_ascii ha (pi_one (tk := s1.toks) I1 _ (turn_str _ x t "str_ascii_iterator" (.inl rfl)) ⟨_, Heap.get?_push_size _ rfl, rfl, rfl⟩ q)

section
variable {g : G} {H : Hp} {φ : Phi} {K : PySem.W.Frag}
theorem walk_lst {ds : List D} {vs : List V} {a : Addr} (n : ¬ Live φ a) (h : H a = some (.lst vs)) (r : RepL g H φ ds vs) : Walk g (Itl K a) ds H φ where
  go := fun i H' φ' x hi => by
    obtain ⟨v, hv, _⟩ := r.get (List.getElem?_eq_getElem hi)
    exact ⟨vs, v, SqL.of (x.keep a _ (.inl n) h), hv⟩
  stop := fun i H' φ' x hi => ⟨vs, SqL.of (x.keep a _ (.inl n) h), by rw [← r.length]; exact hi⟩
  yld := fun i H' φ' s v H2 hi x rp y => by
    obtain ⟨rfl, y⟩ := y
    have q := y vs (SqL.of (x.keep a _ (.inl n) h))
    obtain ⟨w, hw, rw_⟩ := r.get (List.getElem?_eq_getElem hi)
    rw [q] at hw; cases hw
    exact ⟨_, φ', List.getElem?_eq_getElem hi, Ext.refl, rp, RepV.ext x _ rw_⟩
theorem walk_tup {ds : List D} {vs : List V} {a : Addr} (h : TupAt g H φ a vs) (r : RepL g H φ ds vs) : Walk g (Itt g.K a) ds H φ where
  go := fun i H' φ' x hi => by
    obtain ⟨v, hv, _⟩ := r.get (List.getElem?_eq_getElem hi)
    exact ⟨vs, v, (h.ext x).sq, hv⟩
  stop := fun i H' φ' x hi => ⟨vs, (h.ext x).sq, by rw [← r.length]; exact hi⟩
  yld := fun i H' φ' s v H2 hi x rp y => by
    obtain ⟨rfl, y⟩ := y
    have q := y vs (h.ext x).sq
    obtain ⟨w, hw, rw_⟩ := r.get (List.getElem?_eq_getElem hi)
    rw [q] at hw; cases hw
    exact ⟨_, φ', List.getElem?_eq_getElem hi, Ext.refl, rp, RepV.ext x _ rw_⟩
theorem repl_int (ns : List Int) : RepL g H φ (ns.map D.int) (ns.map V.int) := by
  induction ns with
  | nil => simp [RepL]
  | cons n ns ih => simp only [List.map_cons]; unfold RepL; exact ⟨_, _, rfl, repv_of_int, ih⟩
theorem walk_scr {ns : List Int} {a : Addr} (h : ScrAt g H φ a (ns.map V.int)) : Walk g (Itl g.K a) (ns.map D.int) H φ where
  go := fun i H' φ' x hi => by
    have r : RepL g H φ (ns.map D.int) (ns.map V.int) := repl_int ns
    obtain ⟨v, hv, _⟩ := r.get (List.getElem?_eq_getElem hi)
    exact ⟨_, v, (h.ext x).sq, hv⟩
  stop := fun i H' φ' x hi => ⟨_, (h.ext x).sq, by simpa using hi⟩
  yld := fun i H' φ' s v H2 hi x rp y => by
    obtain ⟨rfl, y⟩ := y
    have r : RepL g H2 φ' (ns.map D.int) (ns.map V.int) := repl_int ns
    have q := y _ (h.ext x).sq
    obtain ⟨w, hw, rw_⟩ := r.get (List.getElem?_eq_getElem hi)
    rw [q] at hw; cases hw
    exact ⟨_, φ', List.getElem?_eq_getElem hi, Ext.refl, rp, rw_⟩
theorem walk_str (z : List Nat) : Walk g (Its (strV z)) (z.map fun c => .str [c]) H φ where
  go := fun i H' φ' x hi => by
    show i < (strV z).cps.size
    simpa [strV] using hi
  stop := fun i H' φ' x hi => by
    show (strV z).cps.size ≤ i
    simpa [strV] using hi
  yld := fun i H' φ' s v H2 hi x rp y => by
    obtain ⟨rfl, c, hc, rfl⟩ := y
    have hc' : z[i]? = some c := by simpa [strV] using hc
    refine ⟨.str [c], φ', by rw [List.getElem?_map, hc']; rfl, Ext.refl, rp, ?_⟩
    exact repv_of_str
theorem walk_rng (lo : Int) (n : Nat) : Walk g (Itr lo n) ((List.range n).map fun i : Nat => D.int (lo + i)) H φ where
  go := fun i H' φ' x hi => by
    show i < n
    simpa using hi
  stop := fun i H' φ' x hi => by
    show n ≤ i
    simpa using hi
  yld := fun i H' φ' s v H2 hi x rp y => by
    obtain ⟨rfl, rfl⟩ := y
    have hi' : i < n := by simpa using hi
    refine ⟨.int (lo + i), φ', ?_, Ext.refl, rp, repv_of_int⟩
    rw [List.getElem?_map, List.getElem?_range hi']; rfl
/-- a value that is walked -/
theorem iter_value {X : Cx} {tg e : Expr} {W : WX} {m : Fk.Env → Fk.St → R D} (hk : X.K = g.K) (he : PE X e (tR (RepV g) g W m)) :
    PI X tg e (tI g W fun env s => (m env s).bind fun w s => match iterD w with
      | Option.none => .bad
      | some items => .ok items s) := by
  refine (pi_any he).imp fun σ H R ⟨env, s, φ, hE, hS, hP⟩ => ⟨env, s, φ, hE, hS, hP.bind fun w s1 x H1 φ1 _ r1 v1 p1 => ?_⟩
  rw [hk]
  cases w with
  | tup ds =>
    obtain ⟨a, vs, rfl, t, r, z⟩ := repv_tup v1
    exact .inr (.inl ⟨a, rfl, ⟨vs, t.sq⟩, p1.here r1 ⟨walk_tup t r, by rw [r.length]; exact z⟩⟩)
  | lst ds =>
    obtain ⟨a, vs, rfl, n, t, r, z⟩ := repv_lst v1
    exact .inl ⟨a, rfl, ⟨vs, SqL.of t⟩, p1.here r1 ⟨walk_lst n t r, by rw [r.length]; exact z⟩⟩
  | scr ns =>
    obtain ⟨a, rfl, t, z⟩ := repv_scr v1
    exact .inl ⟨a, rfl, ⟨_, t.sq⟩, p1.here r1 ⟨walk_scr t, by simpa using z⟩⟩
  | str z =>
    have q := repv_str v1
    subst q
    simp only [iterD] at p1
    by_cases c : z.length ≤ Fk.sizeLine
    · rw [if_pos c] at p1
      exact .inr (.inr ⟨_, rfl, p1.here r1 ⟨walk_str z, by rw [← sl_eq]; simpa using c⟩⟩)
    · rw [if_neg c] at p1; exact p1.elim
  | _ => exact p1.elim
end
end L3

set_option Elab.async false
set_option linter.all false
set_option autoImplicit false
set_option maxRecDepth 100000
set_option maxHeartbeats 4000000
/-! FkChk: whether a form is that of a text; static contexts; targets. -/
namespace L3
open PySem PySem.Spec PyProof.Rows L2 Fk

structure SC where
  sc : Scope
  N : List PySem.Str
  fn : PySem.Str → Bool
structure Tab where
  fns : List PySem.Str
  excs : List PySem.Str
  consts : List (PySem.Str × D)
  blts : List PySem.Str
  tabs : List (PySem.Str × List (List Nat × D)) := []
  subs : List (Nat × Nat) := []
def tabD (l : List (List Nat × D)) : D := .tab (l.map (·.1)) (l.map (·.2))
/-- an exception's class of the text -/
structure ExcCls (g : G) (C : Addr) : Prop where
  ex : PySem.W.excIn g.K C He.veBase "ValueError.__new__" = true
  kp : PySem.W.keepIn g.K (.ref C) = true
  sb : PySem.W.subIn g.K (.ref C) (.type "BaseException") = some true
  ty : PySem.W.typeIn g.K (.ref C) = some (.type "type")
  ec : ExcC g.K C
structure TabOk (g : G) (T : Tab) : Prop where
  fns : g.fns = T.fns
  excs : g.excs = T.excs
  consts : ∀ x d, T.consts.lookup x = some d → ∃ u v, g.mg x = some u ∧ RelV v u ∧ ∀ H φ, RepV g H φ d v
  blts : ∀ x, T.blts.contains x = true → g.mg x = none
  tabs : ∀ x l, T.tabs.lookup x = some l → ∃ u v, g.mg x = some u ∧ RelV v u ∧ ∀ H φ, RepV g H φ (tabD l) v
  exc : ∀ (c : Nat) nm, T.excs[c]? = some nm → ∃ C, g.mg nm = some (.ref C) ∧ ExcCls g C
  sub : ∀ (c c' : Nat) nm nm' C C', T.excs[c]? = some nm → T.excs[c']? = some nm' → g.mg nm = some (.ref C) → g.mg nm' = some (.ref C') →
    PySem.W.exmOne g.K (.ref C) (.ref C') = some (T.subs.contains (c, c')) ∧ PySem.W.kitOne g.K (.ref C) (.ref C') = some (T.subs.contains (c, c'))
/-- a promise by a function of ours -/
def spOf (g : G) (np : Nat) (f : List D → Fk.St → R D) : Sp := fun vs H Q E => vs.length = np ∧ ∃ ds s φ, Rep g H φ s ∧ RepL g H φ ds vs ∧ PostR (RepV g) g H φ (f ds s) Q E
/-- the defs keep their promises, to a level -/
structure Calls (P : Program) (w : World) (g : G) (base : Heap) (k : Nat) (cf : CF) : Prop where
  fn : ∀ (f : Nat) (x : PySem.Str), g.fns[f]? = some x →
    ∃ fa fd ps, g.mg x = some (.ref fa) ∧ PySem.W.keepIn g.K (.ref fa) = true ∧ FnOk P w g.K g.mg base (L2.CX P w) k fa fd ps (spOf g ps.length (cf f)) ∧ Binds g.K fd ps [] ∧ ∀ ds s, ds.length ≠ ps.length → cf f ds s = .bad
structure Good (g : G) (T : Tab) (cf : CF) (C : SC) (X : Cx) : Prop where
  K : X.K = g.K
  mg : X.mg = g.mg
  w : X.w = g.w
  sc : X.env.scope = C.sc
  N : X.N = C.N
  nd : C.N.Nodup
  fn : X.fn = C.fn
  calm : X.calm = true
  tab : TabOk g T
  room : ∃ k, Room k X.A ∧ Calls X.prog X.w g X.base k cf

/-! ### names -/
def isDbg (x : PySem.Str) : Bool := x == ("__debug__" : PySem.Str) || x == ("__classdict__" : PySem.Str)
def visB (C : SC) (x : PySem.Str) : Bool := C.sc.names.lookup x == some .local || C.sc.names.lookup x == some .cell || C.sc.names.lookup x == some .free
def locB (C : SC) (x : PySem.Str) : Bool := C.sc.names.lookup x == some .local || (C.sc.names.lookup x == some .cell && C.fn x)
def glB (C : SC) (x : PySem.Str) : Bool := C.sc.names.lookup x == some .globalImplicit
section
variable {g : G} {T : Tab} {cf : CF} {C : SC} {X : Cx}
theorem Good.vis (h : Good g T cf C X) {x : PySem.Str} (b : visB C x = true) : Vis X.env.scope x := by
  unfold visB at b
  unfold Vis
  rw [h.sc]
  simpa [or_assoc] using b
theorem Good.loc (h : Good g T cf C X) {x : PySem.Str} (b : locB C x = true) : L2.Loc X.env.scope x ∧ (X.fn x = true ∨ X.env.scope.names.lookup x = some .local) := by
  unfold locB at b
  unfold L2.Loc
  rw [h.sc, h.fn]
  simp only [Bool.or_eq_true, Bool.and_eq_true, beq_iff_eq] at b
  rcases b with b | ⟨b, c⟩
  · exact ⟨.inl b, .inr b⟩
  · exact ⟨.inr b, .inl c⟩
theorem Good.gl (h : Good g T cf C X) {x : PySem.Str} (b : glB C x = true) : Gl X x := by
  unfold glB at b
  show X.env.scope.names.lookup x = _
  rw [h.sc]
  simpa using b
end

/-! ### targets -/
def chkNames (C : SC) : List Nat → List Expr → Bool
  | [], [] => true
  | i :: is, .Name x _ :: es => C.N[i]? == some x && locB C x && chkNames C is es
  | _, _ => false
def chkP (C : SC) : Pat → Expr → Bool
  | .s i, .Name x _ => C.N[i]? == some x && locB C x
  | .t is, .Tuple es _ _ => chkNames C is es
  | .st is j, .Tuple es _ _ => (match unstar es with
    | some es' => chkNames C (is ++ [j]) es'
    | none => false)
  | _, _ => false
theorem wipe_get (vs : List Nat) (σ : L2.St) (j : Nat) : (L2.wipe σ vs)[j]? = if j ∈ vs then (σ[j]?).map (fun _ => none) else σ[j]? := by
  induction vs with
  | nil => simp [L2.wipe]
  | cons v vs ih =>
    unfold L2.wipe
    by_cases h : v = j
    · subst h
      by_cases hl : v < σ.length
      · rw [List.getElem?_set_self (by rw [L2.wipe_length]; exact hl)]
        simp [hl]
      · rw [List.getElem?_eq_none (by simpa [L2.wipe_length] using hl)]
        simp [List.getElem?_eq_none (Nat.le_of_not_lt hl)]
    · rw [List.getElem?_set_ne h, ih]
      have : (j ∈ v :: vs) ↔ j ∈ vs := by simp [Ne.symm h]
      simp only [this]
theorem wipe_set {vs : List Nat} {σ : L2.St} {i : Nat} {x : Option V} (h : i ∈ vs) : L2.wipe (σ.set i x) vs = L2.wipe σ vs := by
  refine List.ext_getElem? fun j => ?_
  rw [wipe_get, wipe_get]
  by_cases hj : j ∈ vs
  · rw [if_pos hj, if_pos hj]
    by_cases hi : i = j
    · subst hi
      by_cases hl : i < σ.length
      · rw [List.getElem?_set_self hl]; simp [hl]
      · rw [List.getElem?_eq_none (by simpa using hl), List.getElem?_eq_none (by simpa using hl)]
    · rw [List.getElem?_set_ne hi]
  · rw [if_neg hj, if_neg hj]
    rw [List.getElem?_set_ne (by rintro rfl; exact hj h)]
theorem wipe_wipe (vs : List Nat) (σ : L2.St) : L2.wipe (L2.wipe σ vs) vs = L2.wipe σ vs := by
  refine List.ext_getElem? fun j => ?_
  rw [wipe_get, wipe_get]
  by_cases hj : j ∈ vs
  · rw [if_pos hj, if_pos hj]; cases σ[j]? <;> rfl
  · rw [if_neg hj, if_neg hj]
def gD (g : G) (p : Pat) : TG := fun v σ H Q => ∃ d env env' s φ, RepE g H φ env σ ∧ Rep g H φ s ∧ RepV g H φ d v ∧ bindP p d env = some env' ∧ ∀ σ' H' φ', Ext H φ H' φ' → Rep g H' φ' s → RepE g H' φ' env' σ' → L2.wipe σ' p.slots = L2.wipe σ p.slots → Q σ' H'
def gAll (g : G) (is : List Nat) (ws : List Nat) : TGs := fun vs σ H Q => ∃ ds env env' s φ, RepE g H φ env σ ∧ Rep g H φ s ∧ RepL g H φ ds vs ∧ setAll is ds env = some env' ∧ ∀ σ' H' φ', Ext H φ H' φ' → Rep g H' φ' s → RepE g H' φ' env' σ' → L2.wipe σ' ws = L2.wipe σ ws → Q σ' H'
section
variable {g : G} {T : Tab} {cf : CF} {C : SC} {X : Cx}
theorem _root_.L2.PG.imp {X : Cx} {e : Expr} {t t' : TG} (h : PG X e t) (k : ∀ v σ H Q, t' v σ H Q → t v σ H Q) : PG X e t' := ⟨fun pins s σ H v u Q I r q => h.run pins s σ H v u Q I r (k v σ H Q q)⟩
theorem _root_.L2.PGs.imp {X : Cx} {e : List Expr} {t t' : TGs} (h : PGs X e t) (k : ∀ v σ H Q, t' v σ H Q → t v σ H Q) : PGs X e t' := ⟨fun pins s σ H v u Q I r q => h.run pins s σ H v u Q I r (k v σ H Q q)⟩
theorem pgs_all (h : Good g T cf C X) (ws : List Nat) : ∀ (is : List Nat) (es : List Expr), (∀ i ∈ is, i ∈ ws) → chkNames C is es = true → PGs X es (gAll g is ws)
  | [], [], _, _ => pgs_nil.imp fun v σ H Q ⟨ds, env, env', s, φ, hE, hR, hL, e, k⟩ => by
    cases ds with
    | nil =>
      unfold RepL at hL
      have e' : some env = some env' := e
      cases e'
      exact ⟨hL, k σ H φ Ext.refl hR hE rfl⟩
    | cons d ds => cases e
  | i :: is, .Name x p :: es, hw, c => by
    unfold chkNames at c
    simp only [Bool.and_eq_true, beq_iff_eq] at c
    obtain ⟨⟨c1, c2⟩, c3⟩ := c
    obtain ⟨l1, l2⟩ := h.loc c2
    refine (pgs_cons (pg_name (i := i) (h.N ▸ h.nd) (h.N ▸ c1) l1 l2) (pgs_all h ws is es (fun j hj => hw j (List.mem_cons_of_mem _ hj)) c3) rfl).imp fun v σ H Q ⟨ds, env, env', s, φ, hE, hR, hL, e, k⟩ => ?_
    cases ds with
    | nil => cases e
    | cons d ds =>
      unfold RepL at hL
      obtain ⟨y, r, rfl, h1, h2⟩ := hL
      refine ⟨y, r, rfl, ds, _, env', s, φ, hE.set i h1, hR, h2, e, fun σ' H' φ' x hR' hE' hw' => k σ' H' φ' x hR' hE' ?_⟩
      rw [hw', wipe_set (hw i List.mem_cons_self)]
  | [], _ :: _, _, c => by unfold chkNames at c; cases c
  | _ :: _, [], _, c => by unfold chkNames at c; cases c
theorem names_each (C : SC) (env : PySem.Env) : ∀ (is : List Nat) (es : List Expr), chkNames C is es = true → (assignEach es env).length = es.length ∧ is.length = es.length ∧ (assignEach es env).findIdx? (·.1) = none
  | [], [], _ => ⟨rfl, rfl, rfl⟩
  | i :: is, .Name x p :: es, c => by
    unfold chkNames at c
    simp only [Bool.and_eq_true] at c
    obtain ⟨h1, h2, h3⟩ := names_each C env is es c.2
    have e : assignEach (.Name x p :: es) env = (false, assign (.Name x p) env) :: assignEach es env := rfl
    rw [e]
    refine ⟨by simp [h1], by simp [h2], ?_⟩
    rw [List.findIdx?_cons]
    simp [h3]
  | [], _ :: _, c => by unfold chkNames at c; cases c
  | _ :: _, [], c => by unfold chkNames at c; cases c
theorem names_plain (C : SC) : ∀ (is : List Nat) (es : List Expr), chkNames C is es = true → ∀ e ∈ es, ∀ x p, e ≠ .Starred x p
  | [], [], _ => fun e h => by cases h
  | i :: is, .Name x p :: es, c => fun e h => by
    unfold chkNames at c
    simp only [Bool.and_eq_true] at c
    rcases List.mem_cons.mp h with rfl | h
    · intro x p hh; cases hh
    · exact names_plain C is es c.2 e h
  | [], _ :: _, c => by unfold chkNames at c; cases c
  | _ :: _, [], c => by unfold chkNames at c; cases c
theorem setAll_len : ∀ {is : List Nat} {ds : List D} {env env' : Fk.Env}, setAll is ds env = some env' → is.length = ds.length
  | [], [], _, _, _ => rfl
  | [], _ :: _, _, _, e => by cases e
  | _ :: _, [], _, _, e => by cases e
  | i :: is, d :: ds, env, env', e => by
    have := setAll_len (is := is) (ds := ds) e
    simp [this]
theorem pg_pat (h : Good g T cf C X) : ∀ (p : Pat) (tg : Expr), chkP C p tg = true → PG X tg (gD g p)
  | .s i, tg, c => by
    cases tg with
    | Name x pos =>
      unfold chkP at c
      simp only [Bool.and_eq_true, beq_iff_eq] at c
      obtain ⟨l1, l2⟩ := h.loc c.2
      refine (pg_name (i := i) (h.N ▸ h.nd) (h.N ▸ c.1) l1 l2).imp fun v σ H Q ⟨d, env, env', s, φ, hE, hR, hV, e, k⟩ => ?_
      have e' : some (env.set i (some d)) = some env' := e
      cases e'
      exact k _ H φ Ext.refl hR (hE.set i hV) (wipe_set (by simp [Pat.slots]))
    | _ => unfold chkP at c; cases c
  | .t is, tg, c => by
    cases tg with
    | Tuple es kk pos =>
      unfold chkP at c
      obtain ⟨n1, n2, n3⟩ := names_each C X.env is es c
      refine (pg_tup h.calm (pgs_all h is is es (fun _ q => q) c) (n := is.length) (by rw [n1, n2]) n3).imp fun v σ H Q ⟨d, env, env', s, φ, hE, hR, hV, e, k⟩ => ?_
      cases d with
      | tup ds =>
        obtain ⟨a, vs, rfl, t, r, z⟩ := repv_tup hV
        exact ⟨a, vs, rfl, h.K ▸ t.sq, by rw [setAll_len e]; exact r.length.symm, ds, env, env', s, φ, hE, hR, r, e, k⟩
      | _ => cases e
    | _ => unfold chkP at c; cases c
  | .st is j, tg, c => by
    cases tg with
    | Tuple es kk pos =>
      simp only [chkP] at c
      split at c
      · rename_i es' hu
        obtain ⟨n1, n2, n3⟩ := names_each C X.env (is ++ [j]) es' c
        have hl : es'.length = is.length + 1 := by rw [← n2]; simp
        refine (pg_star h.calm hu (names_plain C (is ++ [j]) es' c) hl (pgs_all h (is ++ [j]) (is ++ [j]) es' (fun _ q => q) c)).imp fun v σ H Q ⟨d, env, env', s, φ, hE, hR, hV, e, k⟩ => ?_
        cases d with
        | tup ds =>
          obtain ⟨a, vs, rfl, t, r, z⟩ := repv_tup hV
          simp only [bindP] at e
          split at e
          · rename_i hle
            refine ⟨a, vs, rfl, h.K ▸ t.sq, by rw [← r.length]; exact hle, fun p hp => ?_⟩
            have x0 := Ext.new_ hR hp (.lst (vs.drop is.length))
            refine ⟨ds.take is.length ++ [.lst (ds.drop is.length)], env, env', s, φ, hE.ext x0, hR.new_ hp _, (RepL.ext x0 _ (r.takeN is.length)).append ?_, e, fun σ' H' φ' x hR' hE' hw' => k σ' H' φ' (x0.trans x) hR' hE' hw'⟩
            unfold RepL
            refine ⟨.ref p, [], rfl, ?_, by simp [RepL]⟩
            unfold RepV
            exact ⟨p, _, rfl, hR.notLive hp, upd_same, RepL.ext x0 _ (r.dropN is.length), by rw [List.length_drop]; omega⟩
          · cases e
        | _ => cases e
      · cases c
    | _ => unfold chkP at c; cases c
end
end L3

set_option Elab.async false
set_option linter.all false
set_option autoImplicit false
set_option maxRecDepth 100000
set_option maxHeartbeats 8000000
/-! FkSnd: a form that is a text's, and has a meaning, is run so: expressions. -/
namespace L3
open PySem PySem.Spec PyProof.Rows L2 Fk

def constB : Const → D → Bool
  | .none, .none => true
  | .bool b, .bl c => b == c
  | .int i, .int j => i == j
  | .str s, .str z => s.cps.toList == z
  | _, _ => false
def tyStr (t : Nat) : PySem.Str := PySem.Str.ofString (tyName t)
def bltN : Blt → PySem.Str
  | .isinst _ => "isinstance" | .len => "len" | .all => "all" | .any => "any" | .min2 => "min" | .max2 => "max"
  | .abs => "abs" | .int_ => "int" | .tuple_ => "tuple" | .list_ => "list"
def bltOk : Blt → Bool
  | .isinst k => decide (k < 6)
  | _ => true
def mthN : Mth → PySem.Str
  | .join => "join"
def notStar : Expr → Bool
  | .Starred .. => false
  | _ => true
def notSlice : Expr → Bool
  | .Slice .. => false
  | _ => true
def notSet : Expr → Bool
  | .Set .. => false
  | _ => true
def plainBase : Expr → Bool
  | .Call (.Name ..) .. => false
  | _ => true
def gBlt (T : Tab) (C : SC) (x : PySem.Str) : Bool := glB C x && !isDbg x && T.blts.contains x && !(x == ("__name__" : PySem.Str))
def ownOf (C : SC) (p : Pat) : List (PySem.Str × Nat) := p.slots.map fun i => (C.N.getD i "", i)
def inner (C : SC) (scope : Scope) : SC := ⟨relS scope C.sc, C.N, fun x => scope.names.lookup x == some .cell⟩
def isTrueC : IE → Bool
  | .c (.bl true) => true
  | _ => false
/-- what is walked, of a loop's header -/
def itArgs (T : Tab) (C : SC) (k : ItK) (iter : Expr) : Option (List Expr) :=
  match k, iter with
  | .val, e => if notSet e then some [e] else none
  | .range1, .Call (.Name x _) [a] [] _ => if x == ("range" : PySem.Str) && gBlt T C x then some [a] else none
  | .range2, .Call (.Name x _) [a, b] [] _ => if x == ("range" : PySem.Str) && gBlt T C x then some [a, b] else none
  | _, _ => none

mutual
def chkE (T : Tab) : IE → SC → Expr → Bool
  | .nop, _, _ => false
  | .c d, C, e => (match e with
    | .Constant c _ _ => constB c d
    | .Name x _ => (match d with
      | .ty t => decide (t < 6) && x == tyStr t && gBlt T C x
      | .tab ks vs => glB C x && !isDbg x && (match T.tabs.lookup x with
        | some l => D.beq (tabD l) (.tab ks vs)
        | none => false)
      | d => glB C x && !isDbg x && (match T.consts.lookup x with
        | some d' => D.beq d' d
        | none => false))
    | _ => false)
  | .v i, C, e => (match e with
    | .Name x _ => C.N[i]? == some x && visB C x && !isDbg x
    | _ => false)
  | .bin o t a b, C, e => (match e with
    | .BinOp l op r _ => op == opOf o && chkE T a C l && chkE T b C r
    | _ => false)
  | .neg a, C, e => (match e with
    | .UnaryOp .USub x _ => chkE T a C x
    | _ => false)
  | .cmp o a b, C, e => (match e with
    | .Compare l [op] [r] _ => op == cmpOf o && !behindInMarks op r && chkE T a C l && chkE T b C r
    | _ => false)
  | .chain o1 o2 a b c, C, e => (match e with
    | .Compare l [p1, p2] [m, r] _ => p1 == cmpOf o1 && p2 == cmpOf o2 && !lastMarks [p1, p2] [m, r] && chkE T a C l && chkE T b C m && chkE T c C r
    | _ => false)
  | .and a b, C, e => (match e with
    | .BoolOp .And [x, y] _ => chkE T a C x && chkE T b C y
    | .BoolOp .And (x :: y :: z :: r) pos => chkE T a C x && chkE T b C (.BoolOp .And (y :: z :: r) pos)
    | _ => false)
  | .or a b, C, e => (match e with
    | .BoolOp .Or [x, y] _ => chkE T a C x && chkE T b C y
    | .BoolOp .Or (x :: y :: z :: r) pos => chkE T a C x && chkE T b C (.BoolOp .Or (y :: z :: r) pos)
    | _ => false)
  | .not a, C, e => (match e with
    | .UnaryOp .Not x _ => chkE T a C x
    | _ => false)
  | .ite c a b, C, e => (match e with
    | .IfExp t x y _ => chkE T c C t && chkE T a C x && chkE T b C y
    | _ => false)
  | .tup es, C, e => (match e with
    | .Tuple xs _ _ => decide (xs.length ≤ 1000) && chkL T es C xs
    | _ => false)
  | .lst t es, C, e => (match e with
    | .List xs _ => decide (xs.length ≤ 1000) && chkL T es C xs
    | _ => false)
  | .dic es, C, e => (match e with
    | .Dict ks vs _ => decide (ks.length ≤ 15) && chkD T es C ks vs
    | _ => false)
  | .sub a i, C, e => (match e with
    | .Subscript x y _ => notSlice y && chkE T a C x && chkE T i C y
    | _ => false)
  | .sl t a lo hi, C, e => (match e with
    | .Subscript x (.Slice l h none _) _ => chkE T a C x && (match l with
        | none => isNop lo
        | some l => chkE T lo C l) && (match h with
        | none => isNop hi
        | some h => chkE T hi C h)
    | _ => false)
  | .call f es, C, e => (match e with
    | .Call (.Name x _) xs [] _ => T.fns[f]? == some x && glB C x && !isDbg x && chkL T es C xs
    | _ => false)
  | .rev a, C, e => (match e with
    | .Subscript x (.Slice none none (some (.UnaryOp .USub (.Constant (.int 1) _ _) _)) _) _ => chkE T a C x
    | _ => false)
  | .callv i es, C, e => (match e with
    | .Call (.Name x _) (y :: xs) [] _ => C.N[i]? == some x && visB C x && !isDbg x && chkL T es C (y :: xs)
    | _ => false)
  | .blt b t es, C, e => (match e with
    | .Call (.Name x _) (y :: xs) [] _ => bltOk b && x == bltN b && gBlt T C x && chkL T es C (y :: xs)
    | _ => false)
  | .meth m o es, C, e => (match e with
    | .Call (.Attribute x n apos) [y] [] pos => n == mthN m && plainBase x && apos.endLine == pos.line && chkE T o C x && chkL T es C [y]
    | _ => false)
  | .lc elt p k its cond, C, e => (match e with
    | .ListComp el [⟨tg, iter, ifs, 0⟩] scope _ => blkC C.N C.sc scope (ownOf C p) && (match itArgs T C k iter with
        | some xs => chkL T its C xs
        | none => false) && chkP (inner C scope) p tg && chkE T elt (inner C scope) el && (match ifs with
        | [] => isTrueC cond
        | [c] => chkE T cond (inner C scope) c
        | _ => false)
    | _ => false)
def chkL (T : Tab) : List IE → SC → List Expr → Bool
  | [], _, xs => xs.isEmpty
  | e :: es, C, xs => (match xs with
    | x :: xs => notStar x && chkE T e C x && chkL T es C xs
    | [] => false)
def chkD (T : Tab) : List IE → SC → List (Option Expr) → List Expr → Bool
  | [], _, ks, vs => ks.isEmpty && vs.isEmpty
  | [_], _, _, _ => false
  | k :: v :: es, C, ks, vs => (match ks, vs with
    | some x :: ks, y :: vs => chkE T k C x && chkE T v C y && chkD T es C ks vs
    | _, _ => false)
end
def bEq : Hp → Phi → Bool → Bool → Prop := fun _ _ a b => a = b
def denB (cf : CF) (e : IE) : Fk.Env → Fk.St → R Bool := fun env s => (den cf e env s).bind fun d s => asB d s fun b s => .ok b s
structure Snd (g : G) (W : WX) (cf : CF) (e : IE) (X : Cx) (x : Expr) : Prop where
  pe : PE X x (tR (RepV g) g W (den cf e))
  pt : PT X x (tR bEq g W (denB cf e))

/-! ### from readings of parts to a reading -/
section
variable {g : G} {W : WX} {σ : L2.St} {H : Hp}
theorem PostR.asB {α β : Type} {ρ : Hp → Phi → α → β → Prop} {φ : Phi} {d : D} {s : Fk.St} {f : Bool → Fk.St → R α} {Q : β → Hp → Prop} {E : XK} {x : V} (p : PostR ρ g H φ (Fk.asB d s f) Q E) (h : RepV g H φ d x) : ∃ b, x = .bl b ∧ d = .bl b ∧ PostR ρ g H φ (f b s) Q E := by
  cases d with
  | bl b => exact ⟨b, repv_bl h, rfl, p⟩
  | _ => exact p.elim
theorem wk2 {m1 m2 : Fk.Env → Fk.St → R D} {f : D → D → Fk.St → R D} {Q : VK} (h : tR (RepV g) g W (fun env s => (m1 env s).bind fun x s => (m2 env s).bind fun y s => f x y s) σ H Q) :
    tOp (rS2 g f) (tR (RepV g) g W m1) (tR (RepV g) g W m2) σ H Q := by
  obtain ⟨env, s, φ, hE, hS, hP⟩ := h
  exact ⟨env, s, φ, hE, hS, hP.bind fun a s1 x H1 φ1 e1 r1 v1 p1 => ⟨env, s1, φ1, hE.ext e1, r1, p1.bind fun b s2 y H2 φ2 e2 r2 v2 p2 => ⟨a, b, s2, φ2, r2, RepV.ext e2 a v1, v2, _, p2⟩⟩⟩
theorem wk2T {m1 m2 : Fk.Env → Fk.St → R D} {f : D → D → Fk.St → R D} {Q : Bool → Hp → Prop} (h : tR bEq g W (fun env s => ((m1 env s).bind fun x s => (m2 env s).bind fun y s => f x y s).bind fun d s => Fk.asB d s fun b s => .ok b s) σ H Q) :
    tTest (tOp (rS2 g f) (tR (RepV g) g W m1) (tR (RepV g) g W m2)) σ H Q := by
  obtain ⟨env, s, φ, hE, hS, hP⟩ := h
  refine wk2 ⟨env, s, φ, hE, hS, hP.bind fun d s1 x H1 φ1 e1 r1 v1 p1 => ?_⟩
  obtain ⟨b, rfl, _, q⟩ := p1.asB v1
  exact ⟨b, rfl, q.here r1 rfl⟩
/-- a value as a test -/
theorem wkT {m : Fk.Env → Fk.St → R D} {Q : Bool → Hp → Prop} (h : tR bEq g W (fun env s => (m env s).bind fun d s => Fk.asB d s fun b s => .ok b s) σ H Q) : tB (tR (RepV g) g W m) σ H Q := by
  obtain ⟨env, s, φ, hE, hS, hP⟩ := h
  refine ⟨env, s, φ, hE, hS, hP.bind fun d s1 x H1 φ1 e1 r1 v1 p1 => ?_⟩
  obtain ⟨b, rfl, _, q⟩ := p1.asB v1
  exact ⟨b, rfl, q.here r1 rfl⟩
end
def plainE : Expr → Bool
  | .UnaryOp .Not .. => false
  | .BoolOp .. => false
  | .IfExp .. => false
  | .Compare .. => false
  | _ => true
theorem plain_true {e : Expr} {env : PySem.Env} (h : plainE e = true) : ∀ whole, isTrue e env whole = (do let v ← whole; standAt e.pos; holding [v] (truthy v)) := by
  intro whole
  cases e <;> first | rfl | (cases h; done) | skip
  rename_i op _ _
  cases op <;> first | rfl | (cases h; done)
theorem snd_plain {g : G} {W : WX} {cf : CF} {e : IE} {X : Cx} {x : Expr} (h : PE X x (tR (RepV g) g W (den cf e))) (p : plainE x = true) : Snd g W cf e X x :=
  ⟨h, (pt_val h (plain_true p)).imp fun _ _ _ q => wkT q⟩
theorem star_cons {e : Expr} {es : List Expr} {env : PySem.Env} (h : notStar e = true) : starEach (e :: es) env = (false, eval e env) :: starEach es env := by
  cases e <;> first | rfl | (cases h; done)
theorem star_none {T : Tab} {C : SC} {env : PySem.Env} {pos : Pos} : ∀ (is : List IE) (es : List Expr), chkL T is C es = true → (backTo pos (starEach es env)).any (·.1) = false
  | [], [], _ => rfl
  | [], _ :: _, h => by unfold chkL at h; cases h
  | i :: is, [], h => by unfold chkL at h; cases h
  | i :: is, e :: es, h => by
    unfold chkL at h
    simp only [Bool.and_eq_true] at h
    rw [star_cons h.1.1]
    show (backTo pos ((false, eval e env) :: starEach es env)).any (·.1) = false
    have ih := star_none (env := env) (pos := pos) is es h.2
    unfold backTo at ih ⊢
    rw [List.map_cons, List.any_cons, ih]
    rfl
theorem base_plain {e : Expr} {n : PySem.Str} {env : PySem.Env} (h : plainBase e = true) : attributeBase e n env (eval e env) = eval e env := by
  cases e with
  | Call f as ks pos =>
    cases f with
    | Name _ _ => cases h
    | _ => rfl
  | _ => rfl
theorem ix_plain {e : Expr} (h : notSlice e = true) : PlainIx e := by
  intro o i
  cases e <;> first | rfl | (cases h; done)
theorem folded_pure {e : Expr} {env : PySem.Env} (h : notSet e = true) : ∀ x, foldedSetIterable e env x = pure x := by
  intro x
  cases e <;> first | rfl | (cases h; done)
theorem blt_boot : ∀ b : Blt, bltOk b = true → bootBuiltins (bltN b) = some (bltV b) := by
  intro b
  cases b with
  | isinst k => intro _; show bootBuiltins "isinstance" = some (.builtin "isinstance"); decide +kernel
  | _ => intro _; decide +kernel
theorem ty_boot : ∀ t < 6, bootBuiltins (tyStr t) = some (.type (tyName t)) := by
  intro t h
  match t, h with
  | 0, _ => decide +kernel
  | 1, _ => decide +kernel
  | 2, _ => decide +kernel
  | 3, _ => decide +kernel
  | 4, _ => decide +kernel
  | 5, _ => decide +kernel
section
variable {g : G} {T : Tab} {cf : CF} {C : SC} {X : Cx}
theorem Good.blt (h : Good g T cf C X) {x : PySem.Str} (b : gBlt T C x = true) : Gl X x ∧ X.mg x = none ∧ x ≠ "__name__" ∧ (x == ("__debug__" : PySem.Str)) = false := by
  unfold gBlt isDbg at b
  simp only [Bool.and_eq_true, Bool.not_eq_true', Bool.or_eq_false_iff] at b
  obtain ⟨⟨⟨b1, b2, _⟩, b3⟩, b4⟩ := b
  exact ⟨h.gl b1, by rw [h.mg]; exact h.tab.blts x b3, by simpa using b4, b2⟩
end
end L3

set_option Elab.async false
set_option linter.all false
set_option autoImplicit false
set_option maxRecDepth 100000
set_option maxHeartbeats 8000000
/-! FkLc: list comprehensions. -/
namespace L3
open PySem PySem.Spec PyProof.Rows L2 Fk

/-- the rest told from where one began -/
theorem PostR.from {α β γ δ : Type} {ρ : Hp → Phi → α → β → Prop} {ρ1 : Hp → Phi → γ → δ → Prop} {g : G} {H0 H : Hp} {φ0 φ : Phi} {Q : β → Hp → Prop} {E E1 : XK} {m : R γ} {f : γ → Fk.St → R α} {Q1 : δ → Hp → Prop}
    (p : PostR ρ g H0 φ0 (m.noErr.bind f) Q E) (k : ∀ c s d H1 φ1, m = .ok c s → Ext H φ H1 φ1 → Rep g H1 φ1 s → ρ1 H1 φ1 c d → PostR ρ g H0 φ0 (f c s) Q E → Q1 d H1) : PostR ρ1 g H φ m Q1 E1 := by
  cases m with
  | ok a s => exact fun b H2 φ2 y r2 h => k a s b H2 φ2 rfl y r2 h p
  | err e s => exact p.elim
  | bad => exact p.elim

abbrev WF : WX := fun _ _ _ _ => False
/-- one turn -/
def lcF (cf : CF) (elt : IE) (p : Pat) (cond : IE) (env : Fk.Env) : D → Fk.St → R (Option D) := fun d s => match bindP p d (Fk.wipe env p.slots) with
  | Option.none => .bad
  | some env1 => (den cf cond env1 s).noErr.bind fun c s => Fk.asB c s fun k s => if k then (den cf elt env1 s).noErr.bind fun y s => .ok (some y) s else .ok Option.none s

section
variable {g : G} {T : Tab} {cf : CF} {C : SC} {X : Cx} {W : WX}
theorem lc_imp {p : Pat} {elt cond : IE} {mI : Fk.Env → Fk.St → R (List D)} {σ : L2.St} {H : Hp} {Q : VK}
    (h : tR (RepV g) g W (fun env s => (mI env s).bind fun items s => lcR (lcF cf elt p cond env) items [] s) σ H Q) :
    tLc (tI g W mI) (gD g p) (tR bEq g WF (denB cf cond)) (tR (RepV g) g WF (den cf elt)) p.slots σ H Q := by
  obtain ⟨env, s, φ, hE, hS, hP⟩ := h
  refine ⟨env, s, φ, hE, hS, hP.bind fun items s1 J H1 φ1 x1 r1 ⟨wk, z⟩ p1 => ?_⟩
  intro A hA
  have hE1 := hE.ext x1
  refine ⟨fun i m H => m = items.length - i ∧ i ≤ items.length ∧ ∃ s φ acc vs, Ext H1 φ1 H φ ∧ Rep g H φ s ∧ H A = some (.lst vs) ∧ A ∈ φ.p ∧ RepL g H φ acc vs ∧ vs.length ≤ i ∧
    PostR (RepV g) g H1 φ1 (lcR (lcF cf elt p cond env) (items.drop i) acc s) Q (fun c d H => W c d σ H), ⟨items.length, rfl, Nat.zero_le _, s1, φ1.hide A, [], [], Ext.hide hA _, r1.hide hA _, upd_same, List.mem_cons_self, by simp [RepL], Nat.le_refl _, by rw [List.drop_zero]; exact p1⟩, ?_⟩
  rintro i m H2 ⟨rfl, hi2, s2, φ2, acc, vs, x2, r2, hA2, lA2, ra2, l2, p2⟩
  by_cases hlt : i < items.length
  · refine .inr ⟨wk.go i H2 φ2 x2 hlt, fun H' => (fun i m H => m = items.length - i ∧ i ≤ items.length ∧ ∃ s φ acc vs, Ext H1 φ1 H φ ∧ Rep g H φ s ∧ H A = some (.lst vs) ∧ A ∈ φ.p ∧ RepL g H φ acc vs ∧ vs.length ≤ i ∧
      PostR (RepV g) g H1 φ1 (lcR (lcF cf elt p cond env) (items.drop i) acc s) Q (fun c d H => W c d σ H)) (i + 1) (items.length - (i + 1)) H', fun H' h => ⟨_, by omega, h⟩, fun x H' hy => ?_⟩
    obtain ⟨d, φ3, hd, x3, r3, v3⟩ := wk.yld i H2 φ2 s2 x H' hlt x2 r2 hy
    have hdrop : items.drop i = d :: items.drop (i + 1) := by
      rw [List.drop_eq_getElem_cons hlt]
      rw [List.getElem?_eq_getElem hlt] at hd
      rw [Option.some.inj hd]
    rw [hdrop] at p2
    unfold lcR at p2
    have x13 := x2.trans x3
    cases hb : bindP p d (Fk.wipe env p.slots) with
    | none =>
      have e : lcF cf elt p cond env d s2 = .bad := by unfold lcF; rw [hb]
      rw [e] at p2; exact p2.elim
    | some env1 =>
      have e : lcF cf elt p cond env d s2 = (den cf cond env1 s2).noErr.bind fun c s => Fk.asB c s fun k s => if k then (den cf elt env1 s).noErr.bind fun y s => .ok (some y) s else .ok Option.none s := by unfold lcF; rw [hb]
      rw [e] at p2
      refine ⟨d, Fk.wipe env p.slots, env1, s2, φ3, (hE1.ext x13).wipe p.slots, r3, v3, hb, fun σ3 H3b φ3b x3b r3b hE3 hw => ⟨by rw [hw, wipe_wipe], ?_⟩⟩
      have x3 := x3.trans x3b
      have x13 := x2.trans x3
      refine ⟨env1, s2, φ3b, hE3, r3b, ?_⟩
      unfold denB
      have assoc : ∀ {α β γ : Type} (m : R α) (f : α → Fk.St → R β) (h : β → Fk.St → R γ), (m.bind f).bind h = m.bind fun a s => (f a s).bind h := fun m f h => by cases m <;> rfl
      rw [assoc] at p2
      cases q : den cf cond env1 s2 with
      | err x s => rw [q] at p2; exact p2.elim
      | bad => rw [q] at p2; exact p2.elim
      | ok c s4 =>
        rw [q] at p2
        simp only [R.noErr_ok, R.bind_ok] at p2 ⊢
        cases c with
        | bl b =>
          simp only [Fk.asB] at p2 ⊢
          intro b' H4 φ4 x4 r4 hbb
          have hbb' : b = b' := hbb
          subst hbb'
          have x14 := x13.trans x4
          have hA4 : H4 A = some (.lst vs) := x4.keep A _ (.inr (x3.sub A lA2)) (x3.keep A _ (.inr lA2) hA2)
          have lA4 : A ∈ φ4.p := x4.sub A (x3.sub A lA2)
          have ra4 : RepL g H4 φ4 acc vs := RepL.ext x4 acc (RepL.ext x3 acc ra2)
          cases b with
          | false =>
            rw [if_neg Bool.false_ne_true]
            rw [if_neg Bool.false_ne_true] at p2
            exact ⟨trivial, hlt, s4, φ4, acc, vs, x14, r4, hA4, lA4, ra4, Nat.le_succ_of_le l2, p2⟩
          | true =>
            rw [if_pos rfl]
            rw [if_pos rfl, assoc] at p2
            refine ⟨env1, s4, φ4, hE3.ext x4, r4, PostR.from (ρ1 := RepV g) p2 fun y s5 w H5 φ5 _ x5 r5 v5 p5 => ?_⟩
            have x15 := x14.trans x5
            have hA5 : H5 A = some (.lst vs) := x5.keep A _ (.inr lA4) hA4
            have lA5 : A ∈ φ5.p := x5.sub A lA4
            refine ⟨vs, hA5, ?_, trivial, hlt, s5, φ5, acc ++ [y], vs ++ [w], x15.poke hA _, r5.poke lA5 _, upd_same, lA5, ?_, by simp; omega, p5⟩
            · omega
            · have b5 := bears_poke (H := H5) lA5 (HO.lst (vs ++ [w]))
              exact RepL.bear b5 _ (RepL.append (RepL.ext x5 acc ra4) (by unfold RepL; exact ⟨w, [], rfl, v5, by simp [RepL]⟩))
        | _ => exact p2.elim
  · have e : i = items.length := by omega
    subst e
    refine .inl ⟨wk.stop _ H2 φ2 x2 (Nat.le_refl _), ?_⟩
    rw [List.drop_length] at p2
    unfold lcR at p2
    have x3 := x2.show_ x2.sub
    refine p2 _ _ _ x3 (r2.show_ x2.sub) ?_
    unfold RepV
    refine ⟨A, vs, rfl, ?_, hA2, RepL.bear (bears_show x2.sub) acc ra2, by omega⟩
    rintro (⟨j, hj⟩ | l)
    · exact r2.sep j A hj lA2
    · obtain ⟨o, q⟩ := r1.priv A l
      rw [hA] at q; cases q
theorem own_slots (C : SC) (p : Pat) : (ownOf C p).map (·.2) = p.slots := by unfold ownOf; rw [List.map_map]; exact List.map_id' _
theorem lc_sound (hG : Good g T cf C X) {tg iter el : Expr} {ifs : List Expr} {scope : Scope} {pos : Pos} {p : Pat} {elt cond : IE} {mI : Fk.Env → Fk.St → R (List D)}
    (hi : PI X tg iter (tI g W mI)) (ok : blkC C.N C.sc scope (ownOf C p) = true)
    (hg : ∀ (s : Shared) (H : Hp) (B : Addr) (cl : List (PySem.Str × Addr)) (fp : List Addr), PG (X.blk s H scope (compEnvC scope cl B X.env) fp) tg (gD g p))
    (ht : ∀ (s : Shared) (H : Hp) (B : Addr) (cl : List (PySem.Str × Addr)) (fp : List Addr), PTs (X.blk s H scope (compEnvC scope cl B X.env) fp) ifs (tR bEq g WF (denB cf cond)))
    (he : ∀ (s : Shared) (H : Hp) (B : Addr) (cl : List (PySem.Str × Addr)) (fp : List Addr), PE (X.blk s H scope (compEnvC scope cl B X.env) fp) el (tR (RepV g) g WF (den cf elt)))
    (hs : ∀ x, foldedSetIterable iter X.env x = pure x) :
    PE X (.ListComp el [⟨tg, iter, ifs, 0⟩] scope pos) (tR (RepV g) g W fun env s => (mI env s).bind fun items s => lcR (lcF cf elt p cond env) items [] s) := by
  have hN : X.N.Nodup := by rw [hG.N]; exact hG.nd
  have hok : BlkOk X.N X.env.scope scope (ownOf C p) := by rw [hG.N, hG.sc]; exact blkOk_by ok
  have hown : (ownOf C p).map (·.2) = p.slots := by unfold ownOf; rw [List.map_map]; exact List.map_id' _
  refine (pe_lc (own := ownOf C p) hG.calm hN hi hok hg ht he hs).imp fun σ H Q h => ?_
  rw [hown]
  exact lc_imp h
end
end L3

set_option Elab.async false
set_option linter.all false
set_option autoImplicit false
set_option maxRecDepth 100000
set_option maxHeartbeats 8000000
/-! FkSnd2: expressions: the theorem. -/
namespace L3
open PySem PySem.Spec PyProof.Rows L2 Fk

theorem pt_ifExp {X : Cx} {c a b : Expr} {pos : Pos} {tA ta tb : TT} (hc : PT X c tA) (ha : PT X a ta) (hb : PT X b tb) : PT X (.IfExp c a b pos) (fun σ H Q => tA σ H fun k H1 => if k = true then ta σ H1 Q else tb σ H1 Q) := by
  refine ⟨fun pins s σ H Q I h => ?_⟩
  refine isTrue_IfExp (thn (hc.run pins s σ H _ I h) fun d s1 ⟨H1, I1, q1⟩ => ?_)
  cases d with
  | true => exact ha.run pins s1 σ H1 Q I1 q1
  | false => exact hb.run pins s1 σ H1 Q I1 q1
theorem _root_.L2.PTs.imp {X : Cx} {e : List Expr} {t t' : TT} (h : PTs X e t) (k : ∀ σ H Q, t' σ H Q → t σ H Q) : PTs X e t' := ⟨fun pins s σ H Q I q => h.run pins s σ H Q I (k σ H Q q)⟩
theorem pw_of {X : Cx} {op : BoolOp} {vs : List Expr} {pos : Pos} {t : TT} (h : PT X (.BoolOp op vs pos) t) : PW X (.BoolOp op vs pos) t := ⟨fun _ pins s σ H Q I q => h.run pins s σ H Q I q⟩
theorem R.assoc {α β γ : Type} (m : R α) (f : α → Fk.St → R β) (h : β → Fk.St → R γ) : (m.bind f).bind h = m.bind fun a s => (f a s).bind h := by cases m <;> rfl

theorem PostR.bindE {α β γ δ : Type} {ρ : Hp → Phi → α → β → Prop} {ρ1 : Hp → Phi → γ → δ → Prop} {g : G} {H0 H : Hp} {φ0 φ : Phi} {Q : β → Hp → Prop} {E : XK} {m : R γ} {f : γ → Fk.St → R α} {Q1 : δ → Hp → Prop}
    (x0 : Ext H0 φ0 H φ) (p : PostR ρ g H0 φ0 (m.bind f) Q E) (k : ∀ c s d H1 φ1, m = .ok c s → Ext H φ H1 φ1 → Rep g H1 φ1 s → ρ1 H1 φ1 c d → PostR ρ g H0 φ0 (f c s) Q E → Q1 d H1) : PostR ρ1 g H φ m Q1 E := by
  cases m with
  | ok a s => exact fun b H2 φ2 y r2 h => k a s b H2 φ2 rfl y r2 h p
  | err e s => exact fun c d H2 φ2 y => p c d H2 φ2 (x0.trans y)
  | bad => exact p.elim
theorem denL_len {cf : CF} : ∀ (es : List IE) {env : Fk.Env} {s s1 : Fk.St} {xs : List D}, denL cf es env s = .ok xs s1 → xs.length = es.length
  | [], env, s, s1, xs, h => by
    simp only [denL] at h
    cases h; rfl
  | e :: es, env, s, s1, xs, h => by
    simp only [denL] at h
    cases q : den cf e env s with
    | ok d s2 =>
      rw [q] at h
      simp only [R.bind_ok] at h
      cases q2 : denL cf es env s2 with
      | ok ds s3 =>
        rw [q2] at h
        simp only [R.bind_ok] at h
        cases h
        have := denL_len es q2
        simp [this]
      | err _ _ => rw [q2] at h; cases h
      | bad => rw [q2] at h; cases h
    | err _ _ => rw [q] at h; cases h
    | bad => rw [q] at h; cases h
theorem chkL_len {T : Tab} {C : SC} : ∀ (es : List IE) (xs : List Expr), chkL T es C xs = true → es.length = xs.length
  | [], [], _ => rfl
  | [], _ :: _, h => by unfold chkL at h; cases h
  | _ :: _, [], h => by unfold chkL at h; cases h
  | e :: es, x :: xs, h => by
    unfold chkL at h
    simp only [Bool.and_eq_true] at h
    have := chkL_len es xs h.2
    simp [this]
theorem chkD_len {T : Tab} {C : SC} : ∀ (es : List IE) (ks : List (Option Expr)) (vs : List Expr), chkD T es C ks vs = true → es.length = 2 * ks.length ∧ ks.length = vs.length ∧ ks.all (·.isSome) = true
  | [], ks, vs, h => by
    unfold chkD at h
    simp only [Bool.and_eq_true, List.isEmpty_iff] at h
    obtain ⟨rfl, rfl⟩ := h
    exact ⟨rfl, rfl, rfl⟩
  | [_], _, _, h => by unfold chkD at h; cases h
  | k :: v :: es, ks, vs, h => by
    unfold chkD at h
    split at h
    · simp only [Bool.and_eq_true] at h
      obtain ⟨h1, h2, h3⟩ := chkD_len es _ _ h.2
      refine ⟨by simp [h1]; omega, by simp [h2], by simp [h3]⟩
    · cases h
/-- values two by two -/
def prs : List V → List (V × V)
  | x :: y :: r => (x, y) :: prs r
  | _ => []
theorem prs_keys {g : G} {H : Hp} {φ : Phi} : ∀ {ds ks vs : List D} {us : List V}, RepL g H φ ds us → Fk.pairsOf ds = some (ks, vs) → ks.all keyOk = true → ∃ kvs : List (Key × V), prs us = kvs.map (fun kv => (kV kv.1, kv.2)) ∧ 2 * kvs.length = ds.length
  | [], _, _, us, h, e, _ => by
    unfold RepL at h
    subst h
    exact ⟨[], rfl, rfl⟩
  | [_], _, _, _, _, e, _ => by unfold Fk.pairsOf at e; cases e
  | k :: v :: ds, ks, vs, us, h, e, a => by
    unfold RepL at h
    obtain ⟨x, r, rfl, h1, h2⟩ := h
    unfold RepL at h2
    obtain ⟨y, r, rfl, h2, h3⟩ := h2
    unfold Fk.pairsOf at e
    split at e
    · rename_i ks' vs' e'
      cases e
      simp only [List.all_cons, Bool.and_eq_true] at a
      obtain ⟨kvs, q1, q2⟩ := prs_keys h3 e' a.2
      have hk : ∃ kk : Key, x = kV kk := by
        cases k with
        | int i => exact ⟨.inl i, repv_int h1⟩
        | str z => exact ⟨.inr (strV z), repv_str h1⟩
        | _ => exact absurd a.1 (by simp [keyOk])
      obtain ⟨kk, rfl⟩ := hk
      refine ⟨(kk, y) :: kvs, ?_, by simp; omega⟩
      show (kV kk, y) :: prs r = _
      rw [q1]; rfl
    · cases e

section
variable {g : G} {W : WX} {σ : L2.St} {H : Hp}
theorem tR_congr {α β : Type} {ρ : Hp → Phi → α → β → Prop} {m m' : Fk.Env → Fk.St → R α} {Q : β → Hp → Prop} (h : tR ρ g W m σ H Q) (e : ∀ env s, m env s = m' env s) : tR ρ g W m' σ H Q := by
  obtain ⟨env, s, φ, hE, hS, hP⟩ := h
  exact ⟨env, s, φ, hE, hS, by rw [← e]; exact hP⟩
theorem tR_bind {α β γ δ : Type} {ρ : Hp → Phi → α → β → Prop} {ρ1 : Hp → Phi → γ → δ → Prop} {m : Fk.Env → Fk.St → R γ} {f : γ → Fk.Env → Fk.St → R α} {Q : β → Hp → Prop} {Q1 : δ → Hp → Prop}
    (h : tR ρ g W (fun env s => (m env s).bind fun c s => f c env s) σ H Q)
    (k : ∀ c d env s H1 φ1, RepE g H1 φ1 env σ → Rep g H1 φ1 s → ρ1 H1 φ1 c d → PostR ρ g H1 φ1 (f c env s) Q (fun c d H => W c d σ H) → Q1 d H1) : tR ρ1 g W m σ H Q1 := by
  obtain ⟨env, s, φ, hE, hS, hP⟩ := h
  exact ⟨env, s, φ, hE, hS, hP.bind fun c s1 d H1 φ1 x1 r1 v1 p1 => k c d env s1 H1 φ1 (hE.ext x1) r1 v1 p1⟩
end
def asg (m : Fk.Env → Fk.St → R D) : Fk.Env → Fk.St → R Bool := fun env s => (m env s).bind fun d s => Fk.asB d s fun b s => .ok b s

theorem Good.units {g : G} {T : Tab} {cf : CF} {C : SC} {X : Cx} (h : Good g T cf C X) : X.A.units + 64 < cLine := let ⟨_, r, _⟩ := h.room; r.units
theorem Good.inner {g : G} {T : Tab} {cf : CF} {C : SC} {X : Cx} (h : Good g T cf C X) (s : Shared) (H : Hp) (scope : Scope) (cl : List (PySem.Str × Addr)) (B : Addr) (fp : List Addr) :
    Good g T cf (L3.inner C scope) (X.blk s H scope (compEnvC scope cl B X.env) fp) := by
  refine ⟨h.K, h.mg, h.w, ?_, h.N, h.nd, rfl, h.calm, h.tab, h.room⟩
  show relS scope X.env.scope = relS scope C.sc
  rw [h.sc]

/-- a slice's part -/
theorem po_of {g : G} {W : WX} {cf : CF} {X : Cx} (lo : IE) (l : Option Expr) (h : match l with | none => isNop lo = true | some x => isNop lo = false ∧ PE X x (tR (RepV g) g W (den cf lo))) :
    ∃ t, PO X l t ∧ ∀ σ H Q, tR (fun _ _ a b => a = b) g W (fun env s => (den cf lo env s).bind fun l s => partR (isNop lo) l s) σ H Q → t σ H Q := by
  cases l with
  | none =>
    refine ⟨_, po_none, fun σ H Q ⟨env, s, φ, hE, hS, hP⟩ => ?_⟩
    cases lo with
    | nop =>
      simp only [den, R.bind_ok, partR, isNop] at hP
      exact hP.here hS rfl
    | _ => cases h
  | some x =>
    refine ⟨_, po_some h.2, fun σ H Q q => ?_⟩
    refine tR_bind q fun d v env s H1 φ1 hE hS hv hP => ?_
    rw [h.1] at hP
    cases d with
    | int i => exact ⟨i, repv_int hv, hP.here hS rfl⟩
    | _ => exact hP.elim
theorem chkE_nop {T : Tab} {C : SC} {lo : IE} {x : Expr} (h : chkE T lo C x = true) : isNop lo = false := by
  cases lo with
  | nop => unfold chkE at h; cases h
  | _ => rfl
/-- x() -/
theorem pe_call0S {X : Cx} {k : Nat} {f : Addr} {fd : FuncData} {ps : List PySem.Str} {sp : Sp} {E : L2.St → XK} {x : PySem.Str} {p pos : Pos} (F : FnOk X.prog X.w X.K X.mg X.base (L2.CX X.prog X.w) k f fd ps sp) (hr : Room k X.A) (hg : Gl X x) (hm : X.mg x = some (.ref f)) (hk : PySem.W.keepIn X.K (.ref f) = true) (hb : Binds X.K fd ps [])
    (hx : ∀ σ, PassesAt (L2.CX X.prog X.w) X σ (E σ)) (hdb : (x == ("__debug__" : PySem.Str)) = false) : PE X (.Call (.Name x p) [] [] pos) (fun σ H Q => sp [] H Q (E σ)) := by
  refine ⟨fun pins s σ H Q I h => ?_⟩
  refine wpAny_Call_Name_kw (ld_glob I hg hm ?_ hdb)
  exact PySem.W.callWith_K0 I.kIn hk (run_fnS (us := []) F hr hb (hx σ) I .nil h)
theorem repl_rev {g : G} {H : Hp} {φ : Phi} {ds : List D} {vs : List V} (h : RepL g H φ ds vs) : RepL g H φ ds.reverse vs.reverse := by
  induction ds generalizing vs with
  | nil => unfold RepL at h; subst h; simp [RepL]
  | cons d ds ih =>
    unfold RepL at h
    obtain ⟨v, r, rfl, h1, h2⟩ := h
    rw [List.reverse_cons, List.reverse_cons]
    exact (ih h2).append (by unfold RepL; exact ⟨v, [], rfl, h1, by simp [RepL]⟩)
/-- x(..), x a local name that holds a def -/
theorem pe_callVS {X : Cx} {i : Nat} {E : L2.St → XK} {x : PySem.Str} {p pos : Pos} {e : Expr} {es : List Expr} {t : TA} (hN : X.N[i]? = some x) (hv : Vis X.env.scope x) (ha : PA X (e :: es) t)
    (hdb : (x == ("__debug__" : PySem.Str)) = false) (hcd : (x == ("__classdict__" : PySem.Str)) = false)
    (he : starEach (e :: es) X.env = (false, eval e X.env) :: starEach es X.env) (hpl : (backTo pos (starEach es X.env)).any (·.1) = false) :
    PE X (.Call (.Name x p) (e :: es) [] pos) (fun σ H Q => ∃ (f : Addr) (fd : FuncData) (ps : List PySem.Str) (sp : Sp) (k : Nat), σ[i]? = some (some (.ref f)) ∧ FnOk X.prog X.w X.K X.mg X.base (L2.CX X.prog X.w) k f fd ps sp ∧ Room k X.A ∧ PySem.W.keepIn X.K (.ref f) = true ∧ Binds X.K fd ps [] ∧
      PassesAt (L2.CX X.prog X.w) X σ (E σ) ∧ t σ H fun vs H1 => sp vs H1 Q (E σ)) := by
  refine ⟨fun pins s σ H Q I ⟨f, fd, ps, sp, k, hs, F, hr, hk, hb, hx, ht⟩ => ?_⟩
  refine wpAny_Call_Name_kw (thn ((pe_var (pos := p) hN hv hdb hcd).run pins s σ H (fun v H1 => v = .ref f ∧ H1 = H) I ⟨.ref f, hs, rfl, rfl⟩) fun u s1 ⟨v, H1, I1, r1, q1⟩ => ?_)
  obtain ⟨rfl, rfl⟩ := q1
  cases r1
  exact PySem.W.callWith_K (h₀ := X.base) I.ok.mod.kin hk (thn (ha.run pos pins s1 σ _ _ I1 ht) fun us s2 ⟨vs, H2, I2, r, q⟩ => ⟨I2.kIn, run_fnS F hr hb hx I2 r q⟩) he hpl
theorem repl_ints1 {g : G} {H : Hp} {φ : Phi} {i : Int} {vs : List V} (h : RepL g H φ [.int i] vs) : vs = [.int i] := by
  obtain ⟨x, rfl, q⟩ := repl_1 h
  rw [repv_int q]
theorem it_sound {g : G} {T : Tab} {cf : CF} {C : SC} {X : Cx} {W : WX} (hG : Good g T cf C X) {k : ItK} {its : List IE} {tg iter : Expr} {xs : List Expr} (ha : itArgs T C k iter = some xs) (hc : chkL T its C xs = true)
    (hL : PA X xs (tR (RepL g) g W (denL cf its))) (h1 : ∀ x, xs = [x] → ∃ e, its = [e] ∧ PE X x (tR (RepV g) g W (den cf e))) :
    PI X tg iter (tI g W fun env s => (denL cf its env s).bind fun ws s => match itK k ws with
      | Option.none => .bad
      | some items => .ok items s) ∧ ∀ x, foldedSetIterable iter X.env x = pure x := by
  unfold itArgs at ha
  split at ha
  · split at ha
    · rename_i hn
      cases ha
      obtain ⟨e, rfl, he⟩ := h1 _ rfl
      refine ⟨(iter_value (tg := tg) hG.K he).imp fun σ H R' ⟨env, s, φ, hE, hS, hP⟩ => ⟨env, s, φ, hE, hS, ?_⟩, folded_pure hn⟩
      have : ((denL cf [e] env s).bind fun ws s => match itK .val ws with
        | Option.none => .bad
        | some items => .ok items s) = ((den cf e env s).bind fun w s => match iterD w with
        | Option.none => .bad
        | some items => .ok items s) := by
        simp only [denL, R.bind_ok, R.assoc, itK]
      exact Eq.mp (congrArg (fun r => PostR (fun H φ items J => Walk g J items H φ ∧ items.length ≤ PySem.sizeLine) g H φ r R' (fun c d H => W c d σ H)) this) hP
    · cases ha
  · rename_i x p a pos
    split at ha
    · rename_i hn
      cases ha
      simp only [Bool.and_eq_true, beq_iff_eq] at hn
      obtain ⟨rfl, b⟩ := hn
      obtain ⟨b1, b2, b3, b4⟩ := hG.blt b
      have ns : starEach [a] X.env = [(false, eval a X.env)] := by
        cases its with
        | nil => unfold chkL at hc; cases hc
        | cons e es =>
          unfold chkL at hc
          simp only [Bool.and_eq_true] at hc
          exact star_cons hc.1.1
      refine ⟨(pi_range1 (tg := tg) b1 b2 hL ns).imp fun σ H R' ⟨env, s, φ, hE, hS, hP⟩ => ⟨env, s, φ, hE, hS, hP.bind fun ds s1 vs H1 φ1 x1 r1 v1 p1 => ?_⟩, fun _ => rfl⟩
      unfold itK at p1
      split at p1
      · exact p1.elim
      · rename_i items e
        split at e
        · simp at *
        · rename_i n _
          split at e
          · rename_i hn
            cases e
            have z : (2 : Int) ^ 62 = 4611686018427387904 := by decide
            have z2 : Fk.sizeLine = 16777216 := rfl
            unfold far at hn
            refine ⟨n, repl_ints1 v1, by omega, by omega, ?_⟩
            have w := walk_rng (g := g) (H := H1) (φ := φ1) 0 n.toNat
            simp only [Int.zero_add] at w
            exact p1.here r1 ⟨w, by simp; rw [← sl_eq]; omega⟩
          · cases e
        · simp at *
        · cases e
    · cases ha
  · rename_i x p a b' pos
    split at ha
    · rename_i hn
      cases ha
      simp only [Bool.and_eq_true, beq_iff_eq] at hn
      obtain ⟨rfl, b⟩ := hn
      obtain ⟨b1, b2, b3, b4⟩ := hG.blt b
      have ns : starEach [a, b'] X.env = [(false, eval a X.env), (false, eval b' X.env)] ∧ starEach [b'] X.env = [(false, eval b' X.env)] := by
        cases its with
        | nil => unfold chkL at hc; cases hc
        | cons e es =>
          unfold chkL at hc
          simp only [Bool.and_eq_true] at hc
          cases es with
          | nil => have := hc.2; unfold chkL at this; cases this
          | cons e2 es =>
            have h2 := hc.2
            unfold chkL at h2
            simp only [Bool.and_eq_true] at h2
            have q2 : starEach [b'] X.env = [(false, eval b' X.env)] := star_cons h2.1.1
            exact ⟨by rw [star_cons hc.1.1, q2], q2⟩
      refine ⟨(pi_range2 (tg := tg) b1 b2 hL ns.1 ns.2).imp fun σ H R' ⟨env, s, φ, hE, hS, hP⟩ => ⟨env, s, φ, hE, hS, hP.bind fun ds s1 vs H1 φ1 x1 r1 v1 p1 => ?_⟩, fun _ => rfl⟩
      unfold itK at p1
      split at p1
      · exact p1.elim
      · rename_i items e
        split at e
        · simp at *
        · simp at *
        · rename_i i j _
          split at e
          · rename_i hn
            cases e
            have z : (2 : Int) ^ 62 = 4611686018427387904 := by decide
            have z2 : Fk.sizeLine = 16777216 := rfl
            unfold far at hn
            obtain ⟨x, y, rfl, q1, q2⟩ := repl_2 v1
            refine ⟨i, j, by rw [repv_int q1, repv_int q2], by omega, ?_⟩
            exact p1.here r1 ⟨walk_rng i (j - i).toNat, by simp; rw [← sl_eq]; omega⟩
          · cases e
        · cases e
    · cases ha
  · cases ha

mutual
theorem snd_E {g : G} {T : Tab} {cf : CF} : ∀ (e : IE) (C : SC) (X : Cx) (x : Expr) (W : WX), Good g T cf C X → Takes X W → chkE T e C x = true → Snd g W cf e X x
  | .nop, C, X, x, W, hG, tk, c => by unfold chkE at c; cases c
  | .c d, C, X, x, W, hG, tk, c => by
    unfold chkE at c
    split at c
    · rename_i k _ _
      refine snd_plain ?_ rfl
      unfold constB at c
      split at c
      · exact pe_non.imp fun σ H Q ⟨env, s, φ, hE, hS, hP⟩ => hP.here hS repv_of_none
      · have := beq_iff_eq.mp c; subst this
        exact pe_bl.imp fun σ H Q ⟨env, s, φ, hE, hS, hP⟩ => hP.here hS repv_of_bl
      · have := beq_iff_eq.mp c; subst this
        exact pe_int.imp fun σ H Q ⟨env, s, φ, hE, hS, hP⟩ => hP.here hS repv_of_int
      · rename_i z zs
        have := beq_iff_eq.mp c; subst this
        refine pe_str.imp fun σ H Q ⟨env, s, φ, hE, hS, hP⟩ => ?_
        have q := hP.here hS repv_of_str
        exact q
      · cases c
    · rename_i y _
      refine snd_plain ?_ rfl
      split at c
      · rename_i t
        simp only [Bool.and_eq_true, decide_eq_true_eq, beq_iff_eq] at c
        obtain ⟨⟨c1, rfl⟩, c3⟩ := c
        obtain ⟨b1, b2, b3, b4⟩ := hG.blt c3
        refine (pe_bltn (v := .ty (tyName t)) b1 b2 (ty_boot t c1) rfl b3 b4).imp fun σ H Q ⟨env, s, φ, hE, hS, hP⟩ => hP.here hS ?_
        unfold RepV; rfl
      · simp only [Bool.and_eq_true] at c
        obtain ⟨⟨c1, c2⟩, c3⟩ := c
        split at c3
        · rename_i l e
          have := D.beq_eq _ _ c3
          obtain ⟨u, v, h1, h2, h3⟩ := hG.tab.tabs _ _ e
          unfold isDbg at c2
          simp only [Bool.not_eq_true', Bool.or_eq_false_iff] at c2
          exact (pe_glob (v := v) (hG.gl c1) (by rw [hG.mg]; exact h1) h2 c2.1).imp fun σ H Q ⟨env, s, φ, hE, hS, hP⟩ => hP.here hS (this ▸ h3 _ _)
        · cases c3
      · simp only [Bool.and_eq_true] at c
        obtain ⟨⟨c1, c2⟩, c3⟩ := c
        split at c3
        · rename_i d' e
          have := D.beq_eq _ _ c3
          subst this
          obtain ⟨u, v, h1, h2, h3⟩ := hG.tab.consts _ _ e
          unfold isDbg at c2
          simp only [Bool.not_eq_true', Bool.or_eq_false_iff] at c2
          exact (pe_glob (v := v) (hG.gl c1) (by rw [hG.mg]; exact h1) h2 c2.1).imp fun σ H Q ⟨env, s, φ, hE, hS, hP⟩ => hP.here hS (h3 _ _)
        · cases c3
    · cases c
  | .v i, C, X, x, W, hG, tk, c => by
    unfold chkE at c
    split at c
    · rename_i y _
      refine snd_plain ?_ rfl
      simp only [Bool.and_eq_true, beq_iff_eq] at c
      obtain ⟨⟨c1, c2⟩, c3⟩ := c
      unfold isDbg at c3
      simp only [Bool.not_eq_true', Bool.or_eq_false_iff] at c3
      refine (pe_var (i := i) (by rw [hG.N]; exact c1) (hG.vis c2) c3.1 c3.2).imp fun σ H Q ⟨env, s, φ, hE, hS, hP⟩ => ?_
      simp only [den] at hP
      split at hP
      · rename_i d e
        obtain ⟨v, h1, h2⟩ := hE.at_ i d e
        exact ⟨v, h1, hP.here hS h2⟩
      · exact hP.elim
    · cases c
  | .bin o t a b, C, X, x, W, hG, tk, c => by
    unfold chkE at c
    split at c
    · rename_i l op r _
      simp only [Bool.and_eq_true, beq_iff_eq] at c
      obtain ⟨⟨rfl, c2⟩, c3⟩ := c
      exact snd_plain ((pe_op (op_bin o t hG.K.symm) (snd_E a C X l W hG tk c2).pe (snd_E b C X r W hG tk c3).pe).imp fun σ H Q h => wk2 (tR_congr h fun _ _ => by simp only [den])) rfl
    · cases c
  | .neg a, C, X, x, W, hG, tk, c => by
    unfold chkE at c
    split at c
    · rename_i l _
      refine snd_plain ((pe_un un_neg (snd_E a C X l W hG tk c).pe).imp fun σ H Q h => ?_) rfl
      simp only [den] at h
      refine tR_bind h fun d v env s H1 φ1 hE hS hv hP => ?_
      cases d with
      | int i => exact ⟨i, repv_int hv, hP.here hS repv_of_int⟩
      | _ => exact hP.elim
    · cases c
  | .cmp o a b, C, X, x, W, hG, tk, c => by
    unfold chkE at c
    split at c
    · rename_i l op r _
      simp only [Bool.and_eq_true, beq_iff_eq, Bool.not_eq_true'] at c
      obtain ⟨⟨⟨rfl, c1⟩, c2⟩, c3⟩ := c
      have A := (snd_E a C X l W hG tk c2).pe
      have B := (snd_E b C X r W hG tk c3).pe
      refine ⟨(pe_cmpR (op_cmp o hG.units hG.K.symm) A B c1).imp fun σ H Q h => wk2 (tR_congr h fun _ _ => by simp only [den]), (pt_cmpR (op_cmp o hG.units hG.K.symm) A B c1).imp fun σ H Q h => wk2T (tR_congr h fun _ _ => by simp only [denB, den])⟩
    · cases c
  | .chain o1 o2 a b k, C, X, x, W, hG, tk, c => by
    unfold chkE at c
    split at c
    · rename_i l p1 p2 m r _
      simp only [Bool.and_eq_true, beq_iff_eq, Bool.not_eq_true'] at c
      obtain ⟨⟨⟨⟨⟨rfl, rfl⟩, c1⟩, c2⟩, c3⟩, c4⟩ := c
      have A := (snd_E a C X l W hG tk c2).pe
      have B := (snd_E b C X m W hG tk c3).pe
      have K := (snd_E k C X r W hG tk c4).pe
      have body : ∀ (σ : L2.St) (H : Hp) (Q : VK), tR (RepV g) g W (den cf (.chain o1 o2 a b k)) σ H Q → tChain (rS2 g (cmpD o1)) (rS2 g (cmpD o2)) (tR (RepV g) g W (den cf a)) (tR (RepV g) g W (den cf b)) (tR (RepV g) g W (den cf k)) σ H Q := fun σ H Q h => by
        simp only [den] at h
        refine tR_bind h fun d v env s H1 φ1 hE hS hv hP => ?_
        refine ⟨env, s, φ1, hE, hS, hP.bind fun d2 s2 y H2 φ2 x2 r2 v2 p2 => ?_⟩
        refine ⟨d, d2, s2, φ2, r2, RepV.ext x2 d hv, v2, _, p2.bind fun d3 s3 z H3 φ3 x3 r3 v3 p3 => ?_⟩
        obtain ⟨bb, rfl, _, p4⟩ := p3.asB v3
        refine ⟨bb, rfl, ?_⟩
        cases bb with
        | false => exact p4.here r3 repv_of_bl
        | true =>
          refine ⟨env, s3, φ3, (hE.ext x2).ext x3, r3, p4.bind fun d5 s5 w H5 φ5 x5 r5 v5 p5 => ?_⟩
          exact ⟨d2, d5, s5, φ5, r5, RepV.ext x5 d2 (RepV.ext x3 d2 v2), v5, _, p5⟩
      refine ⟨(pe_chain (op_cmp o1 hG.units hG.K.symm) (op_cmp o2 hG.units hG.K.symm) A B K c1).imp body, (pt_chain (op_cmp o1 hG.units hG.K.symm) (op_cmp o2 hG.units hG.K.symm) A B K c1).imp fun σ H Q h => ?_⟩
      exact body σ H _ (wkT h)
    · cases c
  | .and a b, C, X, x, W, hG, tk, c => by
    have val : ∀ {x y : Expr} {r : List Expr} {pos : Pos}, PE X x (tR (RepV g) g W (den cf a)) → PE X (.BoolOp .And (y :: r) pos) (tR (RepV g) g W (den cf b)) → PE X (.BoolOp .And (x :: y :: r) pos) (tR (RepV g) g W (den cf (.and a b))) := fun A B => (pe_and A B).imp fun σ H Q h => by
      simp only [den] at h
      refine tR_bind h fun d v env s H1 φ1 hE hS hv hP => ?_
      obtain ⟨k, rfl, _, p⟩ := hP.asB hv
      refine ⟨k, rfl, ?_⟩
      cases k with
      | true => exact ⟨env, s, φ1, hE, hS, p⟩
      | false => exact p.here hS repv_of_bl
    have tst : ∀ {x y : Expr} {r : List Expr} {pos : Pos}, PT X x (tR bEq g W (denB cf a)) → PW X (.BoolOp .And (y :: r) pos) (tR bEq g W (denB cf b)) → PT X (.BoolOp .And (x :: y :: r) pos) (tR bEq g W (denB cf (.and a b))) := fun A B => (pw_and A B).pt.imp fun σ H Q h => by
      have h' := tR_congr (m' := fun env s => (denB cf a env s).bind fun k s => if k then denB cf b env s else .ok false s) h fun env s => by
        simp only [denB, den]
        rw [R.assoc, R.assoc]
        cases den cf a env s with
        | ok d s => cases d <;> first | rfl | (rename_i k; cases k <;> rfl)
        | err _ _ => rfl
        | bad => rfl
      refine tR_bind h' fun k k' env s H1 φ1 hE hS hv hP => ?_
      have hv' : k = k' := hv
      subst hv'
      cases k with
      | true => exact ⟨env, s, φ1, hE, hS, hP⟩
      | false => exact hP.here hS rfl
    unfold chkE at c
    split at c
    · rename_i x1 y1 _
      simp only [Bool.and_eq_true] at c
      have A := snd_E a C X x1 W hG tk c.1
      have B := snd_E b C X y1 W hG tk c.2
      exact ⟨val A.pe (pe_one B.pe), tst A.pt (pw_and1 B.pt)⟩
    · rename_i x1 y1 z1 r1 pos
      simp only [Bool.and_eq_true] at c
      have A := snd_E a C X x1 W hG tk c.1
      have B := snd_E b C X _ W hG tk c.2
      exact ⟨val A.pe B.pe, tst A.pt (pw_of B.pt)⟩
    · cases c
  | .or a b, C, X, x, W, hG, tk, c => by
    have val : ∀ {x y : Expr} {r : List Expr} {pos : Pos}, PE X x (tR (RepV g) g W (den cf a)) → PE X (.BoolOp .Or (y :: r) pos) (tR (RepV g) g W (den cf b)) → PE X (.BoolOp .Or (x :: y :: r) pos) (tR (RepV g) g W (den cf (.or a b))) := fun A B => (pe_or A B).imp fun σ H Q h => by
      simp only [den] at h
      refine tR_bind h fun d v env s H1 φ1 hE hS hv hP => ?_
      obtain ⟨k, rfl, _, p⟩ := hP.asB hv
      refine ⟨k, rfl, ?_⟩
      cases k with
      | false => exact ⟨env, s, φ1, hE, hS, p⟩
      | true => exact p.here hS repv_of_bl
    have tst : ∀ {x y : Expr} {r : List Expr} {pos : Pos}, PT X x (tR bEq g W (denB cf a)) → PW X (.BoolOp .Or (y :: r) pos) (tR bEq g W (denB cf b)) → PT X (.BoolOp .Or (x :: y :: r) pos) (tR bEq g W (denB cf (.or a b))) := fun A B => (pw_or A B).pt.imp fun σ H Q h => by
      have h' := tR_congr (m' := fun env s => (denB cf a env s).bind fun k s => if k then .ok true s else denB cf b env s) h fun env s => by
        simp only [denB, den]
        rw [R.assoc, R.assoc]
        cases den cf a env s with
        | ok d s => cases d <;> first | rfl | (rename_i k; cases k <;> rfl)
        | err _ _ => rfl
        | bad => rfl
      refine tR_bind h' fun k k' env s H1 φ1 hE hS hv hP => ?_
      have hv' : k = k' := hv
      subst hv'
      cases k with
      | false => exact ⟨env, s, φ1, hE, hS, hP⟩
      | true => exact hP.here hS rfl
    unfold chkE at c
    split at c
    · rename_i x1 y1 _
      simp only [Bool.and_eq_true] at c
      have A := snd_E a C X x1 W hG tk c.1
      have B := snd_E b C X y1 W hG tk c.2
      exact ⟨val A.pe (pe_one B.pe), tst A.pt (pw_or1 B.pt)⟩
    · rename_i x1 y1 z1 r1 pos
      simp only [Bool.and_eq_true] at c
      have A := snd_E a C X x1 W hG tk c.1
      have B := snd_E b C X _ W hG tk c.2
      exact ⟨val A.pe B.pe, tst A.pt (pw_of B.pt)⟩
    · cases c
  | .not a, C, X, x, W, hG, tk, c => by
    unfold chkE at c
    split at c
    · rename_i y _
      have A := snd_E a C X y W hG tk c
      refine ⟨(pe_not A.pe).imp fun σ H Q h => ?_, (pt_not A.pt).imp fun σ H Q h => ?_⟩
      · simp only [den] at h
        refine tR_bind h fun d v env s H1 φ1 hE hS hv hP => ?_
        obtain ⟨k, rfl, _, p⟩ := hP.asB hv
        exact ⟨k, rfl, p.here hS repv_of_bl⟩
      · have h' := tR_congr (m' := fun env s => (denB cf a env s).bind fun k s => .ok (!k) s) h fun env s => by
          simp only [denB, den]
          rw [R.assoc, R.assoc]
          cases den cf a env s with
          | ok d s => cases d <;> rfl
          | err _ _ => rfl
          | bad => rfl
        refine tR_bind h' fun k k' env s H1 φ1 hE hS hv hP => ?_
        have hv' : k = k' := hv
        subst hv'
        exact hP.here hS rfl
    · cases c
  | .ite k a b, C, X, x, W, hG, tk, c => by
    unfold chkE at c
    split at c
    · rename_i t1 x1 y1 _
      simp only [Bool.and_eq_true] at c
      have K := snd_E k C X t1 W hG tk c.1.1
      have A := snd_E a C X x1 W hG tk c.1.2
      have B := snd_E b C X y1 W hG tk c.2
      refine ⟨(pe_ifExp K.pt A.pe B.pe).imp fun σ H Q h => ?_, (pt_ifExp K.pt A.pt B.pt).imp fun σ H Q h => ?_⟩
      · have h' := tR_congr (m' := fun env s => (denB cf k env s).bind fun k s => if k then den cf a env s else den cf b env s) h fun env s => by
          simp only [denB, den]
          rw [R.assoc]
          cases den cf k env s with
          | ok d s => cases d <;> rfl
          | err _ _ => rfl
          | bad => rfl
        refine tR_bind h' fun k k' env s H1 φ1 hE hS hv hP => ?_
        have hv' : k = k' := hv
        subst hv'
        cases k with
        | true => exact ⟨env, s, φ1, hE, hS, hP⟩
        | false => exact ⟨env, s, φ1, hE, hS, hP⟩
      · have h' := tR_congr (m' := fun env s => (denB cf k env s).bind fun k s => if k then denB cf a env s else denB cf b env s) h fun env s => by
          simp only [denB, den]
          rw [R.assoc, R.assoc]
          cases den cf k env s with
          | ok d s => cases d <;> first | rfl | (rename_i k; cases k <;> rfl)
          | err _ _ => rfl
          | bad => rfl
        refine tR_bind h' fun k k' env s H1 φ1 hE hS hv hP => ?_
        have hv' : k = k' := hv
        subst hv'
        cases k with
        | true => exact ⟨env, s, φ1, hE, hS, hP⟩
        | false => exact ⟨env, s, φ1, hE, hS, hP⟩
    · cases c
  | .tup es, C, X, x, W, hG, tk, c => by
    unfold chkE at c
    split at c
    · rename_i xs _ _
      simp only [Bool.and_eq_true, decide_eq_true_eq] at c
      refine snd_plain ((pe_tup (snd_L es C X xs W hG tk c.2)).imp fun σ H Q ⟨env, s, φ, hE, hS, hP⟩ => ⟨env, s, φ, hE, hS, ?_⟩) rfl
      simp only [den] at hP
      refine PostR.bindE Ext.refl hP fun ds s1 vs H1 φ1 e x1 r1 v1 p1 => ?_
      have z : vs.length ≤ PySem.sizeLine := by
        rw [← v1.length, denL_len es e, chkL_len es xs c.2, ← sl_eq]
        exact Nat.le_trans c.1 (by decide)
      exact ⟨z, fun p hp => new_tup r1 (p1.ext x1) v1 z hp⟩
    · cases c
  | .lst t es, C, X, x, W, hG, tk, c => by
    unfold chkE at c
    split at c
    · rename_i xs _
      simp only [Bool.and_eq_true, decide_eq_true_eq] at c
      refine snd_plain ((pe_lst (snd_L es C X xs W hG tk c.2)).imp fun σ H Q ⟨env, s, φ, hE, hS, hP⟩ => ⟨env, s, φ, hE, hS, ?_⟩) rfl
      simp only [den] at hP
      refine PostR.bindE Ext.refl hP fun ds s1 vs H1 φ1 e x1 r1 v1 p1 => ?_
      have z : vs.length ≤ PySem.sizeLine := by
        rw [← v1.length, denL_len es e, chkL_len es xs c.2, ← sl_eq]
        exact Nat.le_trans c.1 (by decide)
      exact ⟨z, fun p hp => new_fin r1 (p1.ext x1) v1 z hp⟩
    · cases c
  | .dic es, C, X, x, W, hG, tk, c => by
    unfold chkE at c
    split at c
    · rename_i ks vs pos
      simp only [Bool.and_eq_true, decide_eq_true_eq] at c
      obtain ⟨l1, l2, l3⟩ := chkD_len es ks vs c.2
      refine snd_plain ?_ rfl
      cases hk : ks with
      | nil =>
        subst hk
        have : vs = [] := List.length_eq_zero_iff.mp l2.symm
        subst this
        have : es = [] := List.length_eq_zero_iff.mp (by simpa using l1)
        subst this
        refine pe_dnewK.imp fun σ H Q ⟨env, s, φ, hE, hS, hP⟩ => fun p hp => ?_
        simp only [den, denL, R.bind_ok, Fk.pairsOf] at hP
        exact new_dic hS hP hp
      | cons k0 kr =>
        rw [← hk]
        obtain ⟨trs, hp, hq⟩ := snd_D es C X ks vs W pos hG tk c.2
        refine (pe_disp hp l3 l2 (by rw [hk]; exact List.cons_ne_nil _ _) c.1).imp fun σ H Q ⟨env, s, φ, hE, hS, hP⟩ => fun p hpn => ?_
        simp only [den] at hP
        have x0 : Ext H φ (upd H p (.dK [])) (φ.hide p) := Ext.hide hpn _
        refine hq _ _ _ ⟨env, s, φ.hide p, hE.ext x0, hS.hide hpn _, PostR.bindE x0 hP fun ds s1 us H2 φ2 e x2 r2 v2 p2 => ?_⟩
        have h2 : H2 p = some (.dK []) := x2.keep p _ (.inr List.mem_cons_self) upd_same
        refine ⟨h2, ?_⟩
        split at p2
        · rename_i ks' vs' e2
          split at p2
          · rename_i hkeys
            obtain ⟨kvs, q1, q2⟩ := prs_keys v2 e2 hkeys
            have hl := denL_len es e
            refine ⟨kvs, q1, by omega, ?_⟩
            have lp : p ∈ φ2.p := x2.sub p List.mem_cons_self
            have sub : ∀ a ∈ φ.p, a ∈ φ2.p := fun a ha => x2.sub a (List.mem_cons_of_mem _ ha)
            have x3 := ((x0.trans x2).poke hpn (.dK (mergeK [] kvs)))
            refine p2 _ _ _ (x3.show_ sub) ((r2.poke lp _).show_ sub) ?_
            unfold RepV
            refine ⟨p, _, rfl, ?_, upd_same⟩
            rintro (⟨j, hj⟩ | l)
            · exact r2.sep j p hj lp
            · obtain ⟨o, q⟩ := hS.priv p l
              rw [hpn] at q; cases q
          · exact p2.elim
        · exact p2.elim
    · cases c
  | .sub a i, C, X, x, W, hG, tk, c => by
    unfold chkE at c
    split at c
    · rename_i y z _
      simp only [Bool.and_eq_true] at c
      exact snd_plain ((pe_ix (ix_sub hG.K.symm hG.w.symm) (snd_E a C X y W hG tk c.1.2).pe (snd_E i C X z W hG tk c.2).pe (ix_plain c.1.1)).imp fun σ H Q h => wk2 (tR_congr h fun _ _ => by simp only [den])) rfl
    · cases c
  | .sl t a lo hi, C, X, x, W, hG, tk, c => by
    unfold chkE at c
    split at c
    · rename_i y l h _ _
      simp only [Bool.and_eq_true] at c
      obtain ⟨⟨c1, c2⟩, c3⟩ := c
      obtain ⟨tl, ol, kl⟩ := po_of (g := g) (W := W) (cf := cf) (X := X) lo l (by
        cases l with
        | none => exact c2
        | some l => exact ⟨chkE_nop c2, (snd_E lo C X l W hG tk c2).pe⟩)
      obtain ⟨th, oh, kh⟩ := po_of (g := g) (W := W) (cf := cf) (X := X) hi h (by
        cases h with
        | none => exact c3
        | some h => exact ⟨chkE_nop c3, (snd_E hi C X h W hG tk c3).pe⟩)
      refine snd_plain ((pe_slice (sl_sub (g := g) t hG.K.symm) (snd_E a C X y W hG tk c1).pe ol oh).imp fun σ H Q h => ?_) rfl
      simp only [den] at h
      refine tR_bind h fun d v env s H1 φ1 hE hS hv hP => ?_
      refine kl _ _ _ ⟨env, s, φ1, hE, hS, hP.bind fun o1 s1 o1' H2 φ2 x2 r2 v2 p2 => ?_⟩
      subst v2
      refine kh _ _ _ ⟨env, s1, φ2, hE.ext x2, r2, p2.bind fun o2 s2 o2' H3 φ3 x3 r3 v3 p3 => ?_⟩
      subst v3
      exact ⟨d, s2, φ3, r3, RepV.ext (x2.trans x3) d hv, _, p3⟩
    · cases c
  | .call f es, C, X, x, W, hG, tk, c => by
    unfold chkE at c
    split at c
    · rename_i y p xs pos
      simp only [Bool.and_eq_true, beq_iff_eq] at c
      obtain ⟨⟨⟨c1, c2⟩, c3⟩, c4⟩ := c
      unfold isDbg at c3
      simp only [Bool.not_eq_true', Bool.or_eq_false_iff] at c3
      obtain ⟨k, hr, hc⟩ := hG.room
      obtain ⟨fa, fd, ps, m1, m2, m3, m4, m5⟩ := hc.fn f y (by rw [hG.tab.fns]; exact c1)
      have F : FnOk X.prog X.w X.K X.mg X.base (L2.CX X.prog X.w) k fa fd ps (spOf g ps.length (cf f)) := by rw [hG.K, hG.mg]; exact m3
      have hm : X.mg y = some (.ref fa) := by rw [hG.mg]; exact m1
      have hk : PySem.W.keepIn X.K (.ref fa) = true := by rw [hG.K]; exact m2
      have hb : Binds X.K fd ps [] := by rw [hG.K]; exact m4
      have A := snd_L es C X xs W hG tk c4
      have fin : ∀ (σ : L2.St) (env : Fk.Env) (ds : List D) (s : Fk.St) (vs : List V) (H1 : Hp) (φ1 : Phi) (Q : VK), Rep g H1 φ1 s → RepL g H1 φ1 ds vs → PostR (RepV g) g H1 φ1 (cf f ds s) Q (fun c d H => W c d σ H) → spOf g ps.length (cf f) vs H1 Q (WE W σ) := fun σ env ds s vs H1 φ1 Q hS hv hP => by
        refine ⟨?_, ds, s, φ1, hS, hv, hP⟩
        rw [← hv.length]
        refine Decidable.byContradiction fun hne => ?_
        rw [m5 ds s hne] at hP
        exact hP.elim
      refine snd_plain ?_ rfl
      cases xs with
      | nil =>
        cases es with
        | cons _ _ => unfold chkL at c4; cases c4
        | nil =>
          refine (pe_call0S F hr (hG.gl c2) hm hk hb (fun σ => passAt tk σ) c3.1).imp fun σ H Q h => ?_
          simp only [den, denL, R.bind_ok] at h
          obtain ⟨env, s, φ, hE, hS, hP⟩ := h
          exact fin σ env [] s [] H φ Q hS (by simp [RepL]) hP
      | cons z zs =>
        have st : notStar z = true ∧ (backTo pos (starEach zs X.env)).any (·.1) = false := by
          cases es with
          | nil => unfold chkL at c4; cases c4
          | cons e es =>
            unfold chkL at c4
            simp only [Bool.and_eq_true] at c4
            exact ⟨c4.1.1, star_none es zs c4.2⟩
        refine (pe_callS F hr (hG.gl c2) hm hk hb (fun σ => passAt tk σ) A c3.1 (star_cons st.1) st.2).imp fun σ H Q h => ?_
        simp only [den] at h
        exact tR_bind h fun ds vs env s H1 φ1 hE hS hv hP => fin σ env ds s vs H1 φ1 Q hS hv hP
    · cases c
  | .rev a, C, X, x, W, hG, tk, c => by
    unfold chkE at c
    split at c
    · rename_i y _ _ _ _ _
      refine snd_plain ((pe_rev (snd_E a C X y W hG tk c).pe).imp fun σ H Q h => ?_) rfl
      simp only [den] at h
      refine tR_bind h fun d v env s H1 φ1 hE hS hv hP => ?_
      unfold revD at hP
      split at hP
      · rename_i ds e
        obtain ⟨p, vs, h1, h2, h3, h4⟩ := rd_lst hS hv e
        exact ⟨p, vs, h1, .inl ⟨SqL.of h2, fun q hq => new_lst hS hP (repl_rev h3) (by rw [List.length_reverse]; exact h4) hq⟩⟩
      · rename_i ds e
        obtain ⟨p, vs, h1, h2, h3, h4⟩ := repv_tup (rd_is hS hv e (fun _ q => nomatch q))
        exact ⟨p, vs, h1, .inr ⟨hG.K.symm ▸ h2.sq, fun q hq => new_tup hS hP (repl_rev h3) (by rw [List.length_reverse]; exact h4) hq⟩⟩
      · exact hP.elim
    · cases c
  | .callv i es, C, X, x, W, hG, tk, c => by
    unfold chkE at c
    split at c
    · rename_i y p z zs pos
      simp only [Bool.and_eq_true, beq_iff_eq] at c
      obtain ⟨⟨⟨c1, c2⟩, c3⟩, c4⟩ := c
      unfold isDbg at c3
      simp only [Bool.not_eq_true', Bool.or_eq_false_iff] at c3
      obtain ⟨k, hr, hc⟩ := hG.room
      have A := snd_L es C X (z :: zs) W hG tk c4
      have st : notStar z = true ∧ (backTo pos (starEach zs X.env)).any (·.1) = false := by
        cases es with
        | nil => unfold chkL at c4; cases c4
        | cons e es =>
          unfold chkL at c4
          simp only [Bool.and_eq_true] at c4
          exact ⟨c4.1.1, star_none es zs c4.2⟩
      refine snd_plain ((pe_callVS (i := i) (E := WE W) (by rw [hG.N]; exact c1) (hG.vis c2) A c3.1 c3.2 (star_cons st.1) st.2).imp fun σ H Q ⟨env, s, φ, hE, hS, hP⟩ => ?_) rfl
      simp only [den] at hP
      split at hP
      · rename_i f e
        obtain ⟨v, h1, h2⟩ := hE.at_ i _ e
        unfold RepV at h2
        obtain ⟨nm, a, q1, q2, rfl⟩ := h2
        obtain ⟨fa, fd, ps, m1, m2, m3, m4, m5⟩ := hc.fn f nm q1
        have ea : fa = a := by
          rw [q2] at m1
          cases m1; rfl
        subst ea
        refine ⟨fa, fd, ps, _, k, h1, by rw [hG.K, hG.mg]; exact m3, hr, by rw [hG.K]; exact m2, by rw [hG.K]; exact m4, passAt tk σ, ?_⟩
        refine tR_bind (m := denL cf es) (f := fun xs _ s => cf f xs s) ⟨env, s, φ, hE, hS, hP⟩ fun ds vs env s H1 φ1 hE hS hv hP => ?_
        refine ⟨?_, ds, s, φ1, hS, hv, hP⟩
        rw [← hv.length]
        refine Decidable.byContradiction fun hne => ?_
        rw [m5 ds s hne] at hP
        exact hP.elim
      · exact hP.elim
    · cases c
  | .blt b t es, C, X, x, W, hG, tk, c => by
    unfold chkE at c
    split at c
    · rename_i y p z xs pos
      simp only [Bool.and_eq_true, beq_iff_eq] at c
      obtain ⟨⟨⟨c1, rfl⟩, c3⟩, c4⟩ := c
      obtain ⟨b1, b2, b3, b4⟩ := hG.blt c3
      have A := snd_L es C X _ W hG tk c4
      have hb := blt_boot b c1
      have hbk : ∀ k, b = .isinst k → k < 6 := fun k e => by subst e; unfold bltOk at c1; exact of_decide_eq_true c1
      have CR := call_blt (X := X) (g := g) b t hG.calm hG.K.symm hbk
      have st := star_none (env := X.env) (pos := pos) es _ c4
      have ns : notStar z = true ∧ (backTo pos (starEach xs X.env)).any (·.1) = false := by
        cases es with
        | nil => unfold chkL at c4; cases c4
        | cons e es =>
          unfold chkL at c4
          simp only [Bool.and_eq_true] at c4
          exact ⟨c4.1.1, star_none es xs c4.2⟩
      have wk : ∀ (σ : L2.St) (H : Hp) (Q : VK), tR (RepV g) g W (den cf (.blt b t es)) σ H Q → tCB (rSL g (bltD b t)) (tR (RepL g) g W (denL cf es)) σ H Q := fun σ H Q h => by
        simp only [den] at h
        exact tR_bind h fun ds vs env s H1 φ1 hE hS hv hP => ⟨ds, s, φ1, hS, hv, _, hP⟩
      refine snd_plain ?_ rfl
      cases b <;> first
        | exact (pe_callB CR b1 b2 hb A b3 b4 (star_cons ns.1) ns.2).imp wk
        | exact (pe_callTy CR b1 b2 hb A b3 b4 (star_cons ns.1) ns.2).imp wk
    · cases c
  | .meth m o es, C, X, x, W, hG, tk, c => by
    unfold chkE at c
    split at c
    · rename_i ob n apos y pos
      simp only [Bool.and_eq_true, beq_iff_eq] at c
      obtain ⟨⟨⟨⟨rfl, c2⟩, c3⟩, c4⟩, c5⟩ := c
      have A := (snd_E o C X ob W hG tk c4).pe
      obtain ⟨e, rfl, ns, B⟩ := snd_1 es C X y W hG tk c5
      refine snd_plain ?_ rfl
      cases m with
      | join =>
        refine (pe_join A B (star_cons ns) (base_plain c2) (by rw [beq_iff_eq]; exact c3)).imp fun σ H Q h => ?_
        simp only [den] at h
        refine tR_bind h fun d v env s H1 φ1 hE hS hv hP => ?_
        cases d with
        | str a =>
          have hv := repv_str hv
          subst hv
          refine ⟨⟨_, rfl⟩, env, s, φ1, hE, hS, ?_⟩
          simp only [recvOk, if_true, denL, R.assoc, R.bind_ok] at hP
          refine hP.bind fun d2 s2 y2 H2 φ2 x2 r2 v2 p2 => ?_
          simp only [methD] at p2
          split at p2
          · rename_i e1
            obtain ⟨p, vs, q1, q2, q3, q4⟩ := rd_lst r2 v2 e1
            split at p2
            · rename_i ys e2
              split at p2
              · rename_i hz
                refine ⟨strV a, p, ys.map strV, rfl, by rw [q1], .inl (SqL.of (by rw [q2, repl_strs q3 e2])), ?_, ?_⟩
                · rw [strV_len]; rw [lenSum_eq]; exact hz
                · rw [join_eq]; exact p2.here r2 repv_of_str
              · exact p2.elim
            · exact p2.elim
          · exact p2.elim
        | _ => exact hP.elim
    · cases c
  | .lc elt p k its cond, C, X, x, W, hG, tk, c => by
    unfold chkE at c
    split at c
    · rename_i el tg iter ifs scope pos
      simp only [Bool.and_eq_true] at c
      obtain ⟨⟨⟨⟨c1, c2⟩, c3⟩, c4⟩, c5⟩ := c
      split at c2
      · rename_i xs ha
        obtain ⟨hi, hs⟩ := it_sound (tg := tg) hG ha c2 (snd_L its C X xs W hG tk c2) (fun x e => by
          subst e
          obtain ⟨e, h1, _, h2⟩ := snd_1 its C X x W hG tk c2
          exact ⟨e, h1, h2⟩)
        refine snd_plain ((lc_sound (cond := cond) (elt := elt) hG hi c1 (fun s H B cl fp => pg_pat (hG.inner s H scope cl B fp) p tg c3) (fun s H B cl fp => ?_) (fun s H B cl fp => (snd_E elt (L3.inner C scope) _ el WF (hG.inner s H scope cl B fp) takes0 c4).pe) hs).imp fun σ H Q h => tR_congr h fun env s => ?_) rfl
        · split at c5
          · refine L2.PTs.imp pts_nil fun σ H Q ⟨env, s, φ, hE, hS, hP⟩ => ?_
            cases cond with
            | c d =>
              cases d with
              | bl b =>
                cases b with
                | true =>
                  simp only [denB, den, R.bind_ok, Fk.asB] at hP
                  exact hP.here hS rfl
                | false => cases c5
              | _ => cases c5
            | _ => cases c5
          · exact pts_one (snd_E cond (L3.inner C scope) _ _ WF (hG.inner s H scope cl B fp) takes0 c5).pt
          · cases c5
        · simp only [den, R.assoc]
          congr 1
          funext ws s
          cases itK k ws with
          | none => rfl
          | some items => rfl
      · cases c2
    · cases c
theorem snd_L {g : G} {T : Tab} {cf : CF} : ∀ (es : List IE) (C : SC) (X : Cx) (xs : List Expr) (W : WX), Good g T cf C X → Takes X W → chkL T es C xs = true → PA X xs (tR (RepL g) g W (denL cf es))
  | [], C, X, xs, W, hG, tk, c => by
    unfold chkL at c
    cases xs with
    | nil => exact pa_nil.imp fun σ H Q ⟨env, s, φ, hE, hS, hP⟩ => hP.here hS (by simp [RepL])
    | cons _ _ => cases c
  | e :: es, C, X, xs, W, hG, tk, c => by
    cases xs with
    | nil => unfold chkL at c; cases c
    | cons x xs =>
      unfold chkL at c
      simp only [Bool.and_eq_true] at c
      refine (pa_cons (snd_E e C X x W hG tk c.1.2).pe (snd_L es C X xs W hG tk c.2) (star_cons c.1.1)).imp fun σ H Q h => ?_
      simp only [denL] at h
      refine tR_bind h fun d v env s H1 φ1 hE hS hv hP => ?_
      refine ⟨env, s, φ1, hE, hS, hP.bind fun ds s2 vs H2 φ2 x2 r2 v2 p2 => p2.here r2 ?_⟩
      unfold RepL
      exact ⟨v, vs, rfl, RepV.ext x2 d hv, v2⟩
theorem snd_1 {g : G} {T : Tab} {cf : CF} : ∀ (es : List IE) (C : SC) (X : Cx) (x : Expr) (W : WX), Good g T cf C X → Takes X W → chkL T es C [x] = true → ∃ e, es = [e] ∧ notStar x = true ∧ PE X x (tR (RepV g) g W (den cf e))
  | [], C, X, x, W, hG, tk, c => by unfold chkL at c; cases c
  | e :: es, C, X, x, W, hG, tk, c => by
    unfold chkL at c
    simp only [Bool.and_eq_true] at c
    have : es = [] := by
      cases es with
      | nil => rfl
      | cons a b => have h := c.2; unfold chkL at h; cases h
    exact ⟨e, by rw [this], c.1.1, (snd_E e C X x W hG tk c.1.2).pe⟩
theorem snd_D {g : G} {T : Tab} {cf : CF} : ∀ (es : List IE) (C : SC) (X : Cx) (ks : List (Option Expr)) (vs : List Expr) (W : WX) (pos : Pos), Good g T cf C X → Takes X W → chkD T es C ks vs = true → ∃ trs, PPs X pos ks vs trs ∧ ∀ (σ : L2.St) (H : Hp) (Q : List (V × V) → Hp → Prop), tR (RepL g) g W (denL cf es) σ H (fun us H => Q (prs us) H) → tPairs trs σ H Q
  | [], C, X, ks, vs, W, pos, hG, tk, c => by
    unfold chkD at c
    simp only [Bool.and_eq_true, List.isEmpty_iff] at c
    obtain ⟨rfl, rfl⟩ := c
    exact ⟨[], pps_nil, fun σ H Q ⟨env, s, φ, hE, hS, hP⟩ => hP.here hS (b := []) (by simp [RepL])⟩
  | [_], C, X, ks, vs, W, pos, hG, tk, c => by unfold chkD at c; cases c
  | k :: v :: es, C, X, ks, vs, W, pos, hG, tk, c => by
    unfold chkD at c
    split at c
    · rename_i x ks y vs
      simp only [Bool.and_eq_true] at c
      obtain ⟨trs, h1, h2⟩ := snd_D es C X ks vs W pos hG tk c.2
      refine ⟨_, pps_cons (snd_E k C X x W hG tk c.1.1).pe (snd_E v C X y W hG tk c.1.2).pe h1, fun σ H Q h => ?_⟩
      simp only [denL] at h
      refine tR_bind h fun d1 v1 env s1 H1 φ1 hE1 hS1 hv1 hP1 => ?_
      rw [R.assoc] at hP1
      refine ⟨env, s1, φ1, hE1, hS1, hP1.bind fun d2 s2 v2 H2 φ2 x2 r2 hv2 p2 => ?_⟩
      rw [R.assoc] at p2
      refine h2 _ _ _ ⟨env, s2, φ2, hE1.ext x2, r2, p2.bind fun ds s3 us H3 φ3 x3 r3 hv3 p3 => ?_⟩
      refine p3.here (b := v1 :: v2 :: us) r3 ?_
      unfold RepL
      refine ⟨v1, _, rfl, RepV.ext (x2.trans x3) d1 hv1, ?_⟩
      unfold RepL
      exact ⟨v2, us, rfl, RepV.ext x3 d2 hv2, hv3⟩
    · cases c
end
end L3

set_option Elab.async false
set_option linter.all false
set_option autoImplicit false
set_option maxRecDepth 100000
set_option maxHeartbeats 8000000
/-! FkStm: statements. -/
namespace L3
open PySem PySem.Spec PyProof.Rows L2 Fk

def notComp : Expr → Bool
  | .ListComp .. => false
  | .SetComp .. => false
  | .DictComp .. => false
  | _ => true
def notPar (tg v : Expr) : Bool :=
  match tg, v with
  | .Tuple .., .Tuple .. => false
  | .List .., .Tuple .. => false
  | _, _ => true
def swB (C : SC) (t : PySem.Str) (pos : Pos) (v : Expr) : Bool :=
  match v with
  | .ListComp _ _ sc vpos => C.sc.names.lookup t == some .local && pos.line == vpos.line && !(sc.names.any fun (n, k) => n == t && (k == .local || k == .cell))
  | _ => false
def isLC : Expr → Bool
  | .ListComp .. => true
  | _ => false
def setOk (C : SC) (tg v : Expr) : Bool :=
  notPar tg v && (notComp v || (isLC v && (match tg with
    | .Name .. => true
    | _ => false)))
def isDoc : Stmt → Bool
  | .Expr (.Constant (.str _) _ _) _ => true
  | _ => false
def isFz : IS → Bool
  | .fz _ => true
  | _ => false

def allC (T : Tab) (m : List Nat) (h : Nat) : Bool := (List.range T.excs.length).all fun c => m.contains c == T.subs.contains (c, h)
/-- the except suite's list -/
def chkSu (T : Tab) (C : SC) (n : PySem.Str) : List SuE → List Expr → Bool
  | [], [] => true
  | .k d :: es, .Constant c _ _ :: xs => constB c d && chkSu T C n es xs
  | .isx c m :: es, .Call (.Name i _) [.Name y _, .Name z _] [] _ :: xs => i == ("isinstance" : PySem.Str) && gBlt T C i && y == n && !isDbg y && visB C y && T.excs[c]? == some z && glB C z && !isDbg z && allC T m c && chkSu T C n es xs
  | _, _ => false
mutual
def chkS (T : Tab) : IS → SC → Stmt → Bool
  | .expr e, C, st => (match st with
    | .Expr x _ => notComp x && chkE T e C x
    | _ => false)
  | .set p e, C, st => (match st with
    | .Assign [tg] v _ => chkP C p tg && chkE T e C v && setOk C tg v
    | _ => false)
  | .setSub o i e, C, st => (match st with
    | .Assign [.Subscript a b _] v _ => notComp v && notSlice b && chkE T o C a && chkE T i C b && chkE T e C v
    | _ => false)
  | .fz _, _, _ => false
  | .raise c, C, st => (match st with
    | .Raise (some (.Call (.Name x _) [.Constant (.str _) _ _] [] _)) none _ => T.excs[c]? == some x && glB C x && !isDbg x
    | _ => false)
  | .tryR body m h sl es, C, st => (match st with
    | .Try bd [.ExceptHandler (some (.Name x _)) (some n) [.Return (some (.List xs _)) _] _] [] [] _ =>
      T.excs[h]? == some x && glB C x && !isDbg x && C.N[sl]? == some n && C.sc.names.lookup n == some .local && allC T m h && decide (xs.length ≤ 1000) && chkB T body C bd && chkSu T C n es xs
    | _ => false)
  | .ife c a b, C, st => (match st with
    | .If t x y _ => chkE T c C t && chkB T a C x && chkB T b C y
    | _ => false)
  | .forr p k its body, C, st => (match st with
    | .For tg iter bd [] _ => (match itArgs T C k iter with
        | some xs => chkL T its C xs
        | none => false) && chkP C p tg && chkB T body C bd
    | _ => false)
  | .ret e, C, st => (match st with
    | .Return (some x) _ => chkE T e C x
    | .Return none _ => (match e with
      | .c .none => true
      | _ => false)
    | _ => false)
  | .pass, C, st => (match st with
    | .Pass _ => true
    | st => isDoc st)
def chkB (T : Tab) : List IS → SC → List Stmt → Bool
  | [], _, sts => sts.isEmpty
  | t :: ts, C, sts => if isFz t then chkB T ts C sts else (match sts with
    | st :: sts => chkS T t C st && chkB T ts C sts
    | [] => false)
end

def PostS (g : G) (W : WX) (H : Hp) (φ : Phi) (r : RS) (D : Ends) : Prop :=
  match r with
  | .ok (.nx env) s => ∀ σ' H' φ', Ext H φ H' φ' → RepE g H' φ' env σ' → Rep g H' φ' s → D.nx σ' H'
  | .ok (.rt d) s => ∀ v H' φ', Ext H φ H' φ' → Rep g H' φ' s → RepV g H' φ' d v → D.rt v H'
  | .ok (.bk env) s => ∀ σ' H' φ', Ext H φ H' φ' → RepE g H' φ' env σ' → Rep g H' φ' s → D.bk σ' H'
  | .ok (.ct env) s => ∀ σ' H' φ', Ext H φ H' φ' → RepE g H' φ' env σ' → Rep g H' φ' s → D.ct σ' H'
  | .err x env s => ∀ cls d σ' H' φ', Ext H φ H' φ' → RepE g H' φ' env σ' → Rep g H' φ' s → ExR g H' φ' x cls d → W cls d σ' H'
  | .bad => False
def tS (g : G) (W : WX) (m : Fk.Env → Fk.St → RS) : TS := fun D σ H => ∃ env s φ, RepE g H φ env σ ∧ Rep g H φ s ∧ PostS g W H φ (m env s) D
section
variable {g : G} {W : WX} {H H' : Hp} {φ φ' : Phi} {D : Ends} {σ : L2.St} {env : Fk.Env} {s : Fk.St}
theorem PostS.ext {r : RS} (p : PostS g W H φ r D) (x : Ext H φ H' φ') : PostS g W H' φ' r D := by
  cases r with
  | ok f s =>
    cases f with
    | nx env => exact fun σ2 H2 φ2 y => p σ2 H2 φ2 (x.trans y)
    | rt d => exact fun σ2 H2 φ2 y => p σ2 H2 φ2 (x.trans y)
    | bk env => exact fun σ2 H2 φ2 y => p σ2 H2 φ2 (x.trans y)
    | ct env => exact fun σ2 H2 φ2 y => p σ2 H2 φ2 (x.trans y)
  | err e env s => exact fun c d σ2 H2 φ2 y => p c d σ2 H2 φ2 (x.trans y)
  | bad => exact p
theorem PostS.expr {α β : Type} {ρ : Hp → Phi → α → β → Prop} {r : R α} {f : α → Fk.St → RS} {Q1 : β → Hp → Prop} (p : PostS g W H φ (r.toS env f) D) (hE : RepE g H φ env σ)
    (k : ∀ a s b H1 φ1, Ext H φ H1 φ1 → Rep g H1 φ1 s → ρ H1 φ1 a b → PostS g W H1 φ1 (f a s) D → Q1 b H1) : PostR ρ g H φ r Q1 (fun c d H => W c d σ H) := by
  cases r with
  | ok a s => exact fun b H2 φ2 y r2 h => k a s b H2 φ2 y r2 h (PostS.ext p y)
  | err e s => exact fun c d H2 φ2 y r2 h => p c d σ H2 φ2 y (hE.ext y) r2 h
  | bad => exact p
theorem PostS.asB {d : Fk.D} {f : Bool → Fk.St → RS} {x : V} (p : PostS g W H φ (Fk.asBS d s f) D) (h : RepV g H φ d x) : ∃ b, x = .bl b ∧ d = .bl b ∧ PostS g W H φ (f b s) D := by
  cases d with
  | bl b => exact ⟨b, repv_bl h, rfl, p⟩
  | _ => exact p.elim
theorem PostS.nx (p : PostS g W H φ (.ok (.nx env) s) D) (hE : RepE g H φ env σ) (hS : Rep g H φ s) : D.nx σ H := p σ H φ Ext.refl hE hS
end

structure GoodS (g : G) (T : Tab) (cf : CF) (C : SC) (X : Cx) (W : WX) : Prop where
  good : Good g T cf C X
  tk : Takes X W
  po : PassesOwn (model X.prog X.w) X.A X.env X.xe
  fnk : C.sc.kind = .function
  stk : X.stack = X.env :: X.outer
  frm : X.env.frame = some X.env.locals

theorem swaps_no {v : Expr} {t : Option Expr} {l : Nat} {env : PySem.Env} (h : notComp v = true) : swapsWith v t l env = pure false := by
  cases v <;> first | rfl | (cases h; done)
theorem sole {v t : Expr} {l : Nat} {env : PySem.Env} : swapsWithSole [t] v l env = swapsWith v (some t) l env := by unfold swapsWithSole; rfl
theorem swaps_name {el : Expr} {gs : List Comprehension} {sc : Scope} {vpos pos : Pos} {t : PySem.Str} {l : Nat} {g : G} {T : Tab} {cf : CF} {C : SC} {X : Cx} {W : WX} (hG : GoodS g T cf C X W) :
    swapsWith (.ListComp el gs sc vpos) (some (.Name t pos)) l X.env = pure (swB C t pos (.ListComp el gs sc vpos)) := by
  have hk : X.env.scope = C.sc := hG.good.sc
  have ky : X.env.kindOf t = C.sc.names.lookup t := by show X.env.scope.names.lookup t = _; rw [hk]
  have hb : X.env.blockKind = .function := by unfold PySem.Env.blockKind; rw [hk, hG.fnk]; rfl
  unfold swapsWith swB
  simp only [hb, ky, Expr.pos]
  rfl
theorem stores_no {tg v : Expr} {env : PySem.Env} (h : notPar tg v = true) : swappedStores [tg] v env = pure none := by
  unfold swappedStores
  cases tg <;> cases v <;> first | rfl | (cases h; done)
theorem assign_one {tg : Expr} {env : PySem.Env} {C : SC} {p : Pat} (h : chkP C p tg = true) : (assignEach [tg] env).map (·.2) = [assign tg env] := by
  cases tg <;> cases p <;> first | rfl | (unfold chkP at h; cases h; done)

/-- the value of an except suite's part -/
def suW (c : Nat) : SuE → V
  | .k .none => .non
  | .k (.bl b) => .bl b
  | .k (.int i) => .int i
  | .k (.str z) => .str (strV z)
  | .k _ => .non
  | .isx _ m => .bl (m.contains c)
theorem const_su {k : Const} {d : D} {c : Nat} {g : G} {H : Hp} {φ : Phi} (h : constB k d = true) : RepV g H φ d (suW c (.k d)) := by
  unfold constB at h
  split at h
  · exact repv_of_none
  · exact repv_of_bl
  · exact repv_of_int
  · exact repv_of_str
  · cases h
theorem su_len {T : Tab} {C : SC} {n : PySem.Str} : ∀ (es : List SuE) (xs : List Expr), chkSu T C n es xs = true → xs.length = es.length
  | [], [], _ => rfl
  | .k d :: es, x :: xs, h => by
    unfold chkSu at h
    split at h
    · rename_i e1 e2
      cases e1
    · rename_i e1 e2
      cases e1; cases e2
      simp only [Bool.and_eq_true] at h
      simp [su_len es xs h.2]
    · rename_i e1 e2
      cases e1
    · cases h
  | .isx c m :: es, x :: xs, h => by
    unfold chkSu at h
    split at h
    · rename_i e1 e2
      cases e1
    · rename_i e1 e2
      cases e1
    · rename_i e1 e2
      cases e1; cases e2
      simp only [Bool.and_eq_true] at h
      simp [su_len es xs h.2]
    · cases h
  | [], _ :: _, h => by unfold chkSu at h; cases h
  | .k d :: es, [], h => by unfold chkSu at h; cases h
  | .isx c m :: es, [], h => by unfold chkSu at h; cases h
theorem su_rep {T : Tab} {C : SC} {n : PySem.Str} {c : Nat} {g : G} {H : Hp} {φ : Phi} : ∀ (es : List SuE) (xs : List Expr), chkSu T C n es xs = true → RepL g H φ (es.map (suV c)) (es.map (suW c))
  | [], _, _ => by simp [RepL]
  | .k d :: es, [], h => by unfold chkSu at h; cases h
  | .isx c m :: es, [], h => by unfold chkSu at h; cases h
  | .k d :: es, x :: xs, h => by
    unfold chkSu at h
    split at h
    · rename_i e1 e2
      cases e1
    · rename_i e1 e2
      cases e1; cases e2
      simp only [Bool.and_eq_true] at h
      rw [List.map_cons, List.map_cons]
      unfold RepL
      exact ⟨_, _, rfl, const_su h.1, su_rep es xs h.2⟩
    · rename_i e1 e2
      cases e1
    · cases h
  | .isx c' m :: es, x :: xs, h => by
    unfold chkSu at h
    split at h
    · rename_i e1 e2
      cases e1
    · rename_i e1 e2
      cases e1
    · rename_i e1 e2
      cases e1; cases e2
      simp only [Bool.and_eq_true] at h
      rw [List.map_cons, List.map_cons]
      unfold RepL
      exact ⟨_, _, rfl, repv_of_bl, su_rep es xs h.2⟩
    · cases h
/-- the reading of an except suite -/
def tSuite (g : G) {es : List SuE} (sl : Nat) : Addr → Value → Option Addr → TS := fun a cls d D σ H =>
  ∃ c nm C, g.excs[c]? = some nm ∧ g.mg nm = some (.ref C) ∧ cls = .ref C ∧ d = none ∧ (σ[sl]? = some (some (.ref a)) ∨ σ.length ≤ sl) ∧ ∀ p, H p = none → D.rt (.ref p) (upd H p (.lst (es.map (suW c))))
section
variable {g : G} {T : Tab} {cf : CF} {C : SC} {X : Cx} {W : WX}
theorem su_pa (hG : GoodS g T cf C X W) {a : Addr} {oe : Obj} {pn : List (Addr × Obj)} {n nm : PySem.Str} {sl c : Nat} {D1 : Addr} (hn : C.N[sl]? = some n) (hc : T.excs[c]? = some nm) (hD : g.mg nm = some (.ref D1)) (hz : Zc (.ref D1) none oe) (hf : ∃ vs, oe.data = .fields vs) :
    ∀ (es : List SuE) (xs : List Expr), chkSu T C n es xs = true → PA (X.suite a ((a, oe) :: pn)) xs (fun σ H Q => σ[sl]? = some (some (.ref a)) ∧ Q (es.map (suW c)) H)
  | [], [], _ => pa_nil.imp fun σ H Q h => h.2
  | .k d :: es, x :: xs, h => by
    unfold chkSu at h
    split at h
    · rename_i e1 e2
      cases e1
    · rename_i d' es' k _ _ xs' e1 e2
      cases e1; cases e2
      simp only [Bool.and_eq_true] at h
      have ih := su_pa (a := a) (pn := pn) hG hn hc hD hz hf es xs h.2
      have A : PE (X.suite a ((a, oe) :: pn)) (.Constant k ‹_› ‹_›) (tC (suW c (.k d))) := by
        have h1 := h.1
        unfold constB at h1
        split at h1
        · exact pe_non
        · have := beq_iff_eq.mp h1; subst this; exact pe_bl
        · have := beq_iff_eq.mp h1; subst this; exact pe_int
        · have := beq_iff_eq.mp h1; subst this; exact pe_str
        · cases h1
      exact (pa_cons A ih (star_cons rfl)).imp fun σ H Q h => ⟨h.1, h.2⟩
    · rename_i e1 e2
      cases e1
    · cases h
  | .isx c' m :: es, x :: xs, h => by
    unfold chkSu at h
    split at h
    · rename_i e1 e2
      cases e1
    · rename_i e1 e2
      cases e1
    · rename_i c2 m2 es2 i1 p1 y p2 z p3 p4 xs2 e1 e2
      cases e1; cases e2
      simp only [Bool.and_eq_true, beq_iff_eq] at h
      obtain ⟨⟨⟨⟨⟨⟨⟨⟨⟨rfl, g1⟩, rfl⟩, g2⟩, g3⟩, g4⟩, g5⟩, g6⟩, g7⟩, g8⟩ := h
      unfold isDbg at g2 g6
      simp only [Bool.not_eq_true', Bool.or_eq_false_iff] at g2 g6
      have ih := su_pa (a := a) (pn := pn) hG hn hc hD hz hf es xs g8
      obtain ⟨b1, b2, b3, b4⟩ := hG.good.blt g1
      obtain ⟨C2, m1, m2x⟩ := hG.good.tab.exc c' z g4
      obtain ⟨C3, m3, m4⟩ := hG.good.tab.exc c nm hc
      have e3 : C3 = D1 := by rw [hD] at m3; cases m3; rfl
      subst e3
      obtain ⟨_, kit⟩ := hG.good.tab.sub c c' nm z C3 C2 hc g4 hD m1
      have hm : m.contains c = T.subs.contains (c, c') := by
        have := List.all_eq_true.mp g7 c (List.mem_range.mpr (List.getElem?_eq_some_iff.mp hc).1)
        simpa using this
      have hN : (X.suite a ((a, oe) :: pn)).N[sl]? = some y := by
        show X.N[sl]? = _
        rw [hG.good.N]; exact hn
      have V1 : PE (X.suite a ((a, oe) :: pn)) (.Name y p2) (tVar sl) := pe_var hN (hG.good.vis g3) g2.1 g2.2
      have V2 : PE (X.suite a ((a, oe) :: pn)) (.Name z p3) (tC (.ref C2)) := pe_glob (v := .ref C2) (hG.good.gl g5) (by show X.mg z = _; rw [hG.good.mg]; exact m1) rfl g6.1
      have CR := call_isE (X := X) (a := a) (oe := oe) (pn := pn) (D := C3) (by rw [hG.good.K]; exact m4.ec) hz hf
      have A := pe_callB (pos := p4) (p := p1) CR b1 b2 (by decide +kernel) (pa_cons V1 (pa_cons V2 pa_nil (star_cons rfl)) (star_cons rfl)) b3 b4 (star_cons rfl) rfl
      refine (pa_cons A ih (star_cons rfl)).imp fun σ H Q ⟨h1, h2⟩ => ?_
      refine ⟨_, h1, .ref C2, .ref C2, T.subs.contains (c, c'), rfl, fun u hu => hu, by rw [hG.good.K]; exact kit, h1, ?_⟩
      rw [← hm]
      exact h2
    · cases h
  | [], _ :: _, h => by unfold chkSu at h; cases h
  | .k d :: es, [], h => by unfold chkSu at h; cases h
  | .isx c m :: es, [], h => by unfold chkSu at h; cases h
theorem suite_ok (hG : GoodS g T cf C X W) {a : Addr} {oe : Obj} {cls : Value} {d : Option Addr} {pn : List (Addr × Obj)} {n : PySem.Str} {sl : Nat} {es : List SuE} {xs : List Expr} {p1 p2 : Pos} (hn : C.N[sl]? = some n) (hc : chkSu T C n es xs = true) (hx : xs.length ≤ 1000)
    (hz : Zc cls d oe) (hf : ∃ vs, oe.data = .fields vs) : PSs (X.suite a ((a, oe) :: pn)) [.Return (some (.List xs p1)) p2] (tSuite g (es := es) sl a cls d) := by
  refine ⟨fun pins s σ H D I ⟨c, nm, C1, q1, q2, e1, e2, hσ, hrt⟩ => ?_⟩
  subst e1 e2
  have hl : σ.length = X.N.length := I.len
  have hs : σ[sl]? = some (some (.ref a)) := by
    rcases hσ with h | h
    · exact h
    · have := (List.getElem?_eq_some_iff.mp hn).1
      rw [hl, hG.good.N] at h
      omega
  refine (pss_one (ps_ret (pe_lst (su_pa hG hn (by rw [← hG.good.tab.excs]; exact q1) q2 hz hf es xs hc)))).run pins s σ H D I ⟨hs, ?_, hrt⟩
  rw [List.length_map, ← su_len es xs hc, ← sl_eq]
  exact Nat.le_trans hx (by decide)
end

section
variable {g : G} {T : Tab} {cf : CF} {C : SC} {X : Cx} {W : WX}
theorem asg_imp {p : Pat} {e : IE} {D : Ends} {σ : L2.St} {H : Hp} (h : tS g W (exS cf (.set p e)) D σ H) : tAsg (tR (RepV g) g W (den cf e)) (gD g p) D σ H := by
  obtain ⟨env, s, φ, hE, hS, hP⟩ := h
  simp only [exS] at hP
  refine ⟨env, s, φ, hE, hS, hP.expr hE fun d s1 x H1 φ1 x1 r1 v1 p1 => ?_⟩
  split at p1
  · rename_i env1 e1
    exact ⟨d, env, env1, s1, φ1, hE.ext x1, r1, v1, e1, fun σ' H' φ' y hR' hE' _ => (p1.ext y).nx hE' hR'⟩
  · exact p1.elim
theorem for_imp {p : Pat} {k : ItK} {its : List IE} {body : List IS} {D : Ends} {σ : L2.St} {H : Hp} (h : tS g W (exS cf (.forr p k its body)) D σ H) :
    tFor (tI g W fun env s => (denL cf its env s).bind fun ws s => match itK k ws with
      | Option.none => .bad
      | some items => .ok items s) (gD g p) (tS g W (exB cf body)) D σ H := by
  obtain ⟨env, s, φ, hE, hS, hP⟩ := h
  simp only [exS] at hP
  have hP' : PostS g W H φ (((denL cf its env s).bind fun ws s => match itK k ws with
      | Option.none => R.bad
      | some items => .ok items s).toS env fun items s => forR p (fun env s => exB cf body env s) items env s) D := by
    cases q : denL cf its env s with
    | ok ws s1 =>
      rw [q] at hP
      simp only [R.toS] at hP
      simp only [R.bind_ok]
      cases q2 : itK k ws with
      | none => rw [q2] at hP; exact hP
      | some items => rw [q2] at hP; exact hP
    | err e s1 => rw [q] at hP; exact hP
    | bad => rw [q] at hP; exact hP
  refine ⟨env, s, φ, hE, hS, hP'.expr hE fun items s1 J H1 φ1 x1 r1 ⟨wk, z⟩ p1 => ?_⟩
  refine ⟨fun i m σ H => m = items.length - i ∧ i ≤ items.length ∧ ∃ env s φ, Ext H1 φ1 H φ ∧ RepE g H φ env σ ∧ Rep g H φ s ∧ PostS g W H φ (forR p (fun env s => exB cf body env s) (items.drop i) env s) D,
    ⟨items.length, rfl, Nat.zero_le _, env, s1, φ1, Ext.refl, hE.ext x1, r1, by rw [List.drop_zero]; exact p1⟩, ?_⟩
  rintro i m σ2 H2 ⟨rfl, hi2, env2, s2, φ2, x2, e2, r2, p2⟩
  by_cases hlt : i < items.length
  · refine .inr ⟨wk.go i H2 φ2 x2 hlt, fun σ' H' => (fun i m σ H => m = items.length - i ∧ i ≤ items.length ∧ ∃ env s φ, Ext H1 φ1 H φ ∧ RepE g H φ env σ ∧ Rep g H φ s ∧ PostS g W H φ (forR p (fun env s => exB cf body env s) (items.drop i) env s) D) (i + 1) (items.length - (i + 1)) σ' H', fun σ' H' h => ⟨_, by omega, h⟩, fun x H' hy => ?_⟩
    obtain ⟨d, φ3, hd, x3, r3, v3⟩ := wk.yld i H2 φ2 s2 x H' hlt x2 r2 hy
    have hdrop : items.drop i = d :: items.drop (i + 1) := by
      rw [List.drop_eq_getElem_cons hlt]
      rw [List.getElem?_eq_getElem hlt] at hd
      rw [Option.some.inj hd]
    rw [hdrop] at p2
    unfold forR at p2
    have x13 := x2.trans x3
    have p3 := p2.ext x3
    split at p3
    · exact p3.elim
    · rename_i env1 hb
      refine ⟨d, env2, env1, s2, φ3, e2.ext x3, r3, v3, hb, fun σ3 H3b φ3b x3b r3b hE3 _ => ⟨env1, s2, φ3b, hE3, r3b, ?_⟩⟩
      have p3 := PostS.ext p3 x3b
      have x13 := x13.trans x3b
      split at p3
      · rename_i e s' q
        rw [q]
        exact fun σ' H' φ' y hE' hS' => ⟨rfl, hlt, e, s', φ', x13.trans y, hE', hS', p3.ext y⟩
      · rename_i e s' q
        rw [q]
        exact fun σ' H' φ' y hE' hS' => ⟨rfl, hlt, e, s', φ', x13.trans y, hE', hS', p3.ext y⟩
      · rename_i e s' q
        rw [q]
        exact p3
      · rename_i e s' q
        rw [q]
        exact p3
      · rename_i e s' q
        rw [q]
        exact p3
      · exact p3.elim
  · have e : i = items.length := by omega
    subst e
    refine .inl ⟨wk.stop _ H2 φ2 x2 (Nat.le_refl _), ?_⟩
    rw [List.drop_length] at p2
    unfold forR at p2
    exact p2.nx e2 r2

theorem fz_imp {i : Nat} {ts : List IS} {D : Ends} {σ : L2.St} {H : Hp} (h : tS g W (exB cf (.fz i :: ts)) D σ H) : tS g W (exB cf ts) D σ H := by
  obtain ⟨env, s, φ, hE, hS, hP⟩ := h
  simp only [exB, exS, freeze] at hP
  split at hP
  · rename_i r e1
    split at hP
    · rename_i ds e2
      simp only [RS.seq] at hP
      obtain ⟨r2, a, vs, h1, h2, h3, h4, h5⟩ := hS.freeze e2
      have x : Ext H φ H (φ.fz r) := Ext.freeze
      refine ⟨_, _, φ.fz r, ?_, r2, hP.ext x⟩
      obtain ⟨v, q1, q2⟩ := hE.at_ i _ e1
      unfold RepV at q2
      have := q2.2.2 a h1
      subst this
      have hset : σ.set i (some (V.ref a)) = σ := by
        refine List.ext_getElem? fun j => ?_
        by_cases hj : i = j
        · subst hj
          rw [List.getElem?_set_self (List.getElem?_eq_some_iff.mp q1).1, q1]
        · rw [List.getElem?_set_ne hj]
      rw [← hset]
      refine (hE.ext x).set i ?_
      unfold RepV
      exact ⟨a, vs, rfl, h3, h2, h4, h5⟩
    · exact hP.elim
  · exact hP.elim
theorem sub_set {o i e : IE} {D : Ends} {σ : L2.St} {H : Hp} (h : tS g W (exS cf (.setSub o i e)) D σ H) : tAsg (tR (RepV g) g W (den cf e)) (gSub (tR (RepV g) g W (den cf o)) (tR (RepV g) g W (den cf i)) rSetL) D σ H := by
  obtain ⟨env, s, φ, hE, hS, hP⟩ := h
  simp only [exS] at hP
  refine ⟨env, s, φ, hE, hS, hP.expr hE fun x s1 xv H1 φ1 x1 r1 v1 p1 => ?_⟩
  refine ⟨env, s1, φ1, hE.ext x1, r1, p1.expr (hE.ext x1) fun ov s2 ovv H2 φ2 x2 r2 v2 p2 => ?_⟩
  refine ⟨env, s2, φ2, (hE.ext x1).ext x2, r2, p2.expr ((hE.ext x1).ext x2) fun iv s3 ivv H3 φ3 x3 r3 v3 p3 => ?_⟩
  have vx := RepV.ext (x2.trans x3) x v1
  have vo := RepV.ext x3 ov v2
  have hE3 := ((hE.ext x1).ext x2).ext x3
  unfold setAt at p3
  split at p3
  · rename_i r k
    split at p3
    · rename_i ds e1
      split at p3
      · rename_i j e2
        split at p3
        · rename_i hp
          obtain ⟨a, vs, q1, q2, q3, q4, q5⟩ := r3.lst r ds e1
          unfold RepV at vo
          have ho := vo.2.2 a q1
          subst ho
          have hl := q3.length
          refine ⟨a, vs, k, j, rfl, repv_int v3, q2, by rw [← hl]; exact e2, ?_⟩
          have pl : Fk.D.pureL (ds.set j x) = true := by
            have : ∀ (l : List Fk.D) (j : Nat), Fk.D.pureL l = true → Fk.D.pureL (l.set j x) = true := fun l => by
              induction l with
              | nil => intro j h; exact h
              | cons a l ih =>
                intro j h
                unfold Fk.D.pureL at h
                simp only [Bool.and_eq_true] at h
                cases j with
                | zero => simp only [List.set_cons_zero]; unfold Fk.D.pureL; simp [hp, h.2]
                | succ j => simp only [List.set_cons_succ]; unfold Fk.D.pureL; simp [h.1, ih j h.2]
            exact this ds j q4
          have y : Ext H3 φ3 (upd H3 a (.lst (vs.set j xv))) φ3 := Ext.write r3 q1
          exact p3 _ _ _ y (hE3.ext y) (r3.write e1 q1 (q3.set j vx) pl (by rw [List.length_set]; exact q5))
        · exact p3.elim
      · exact p3.elim
    · exact p3.elim
  · exact p3.elim

mutual
theorem snd_S {g : G} {T : Tab} {cf : CF} {C : SC} : ∀ (t : IS) (X : Cx) (W : WX), GoodS g T cf C X W → ∀ (st : Stmt), chkS T t C st = true → PS X st (tS g W (exS cf t))
  | .expr e, X, W, hG, st, c => by
    unfold chkS at c
    split at c
    · rename_i x pos
      simp only [Bool.and_eq_true] at c
      refine (ps_expr (snd_E e C X x W hG.good hG.tk c.2).pe (swaps_no c.1)).imp fun D σ H ⟨env, s, φ, hE, hS, hP⟩ => ?_
      simp only [exS] at hP
      exact ⟨env, s, φ, hE, hS, hP.expr hE fun d s1 x H1 φ1 x1 r1 v1 p1 => p1.nx (hE.ext x1) r1⟩
    · cases c
  | .set p e, X, W, hG, st, c => by
    unfold chkS at c
    split at c
    · rename_i tg v pos
      simp only [Bool.and_eq_true] at c
      obtain ⟨⟨c1, c2⟩, c3⟩ := c
      unfold setOk at c3
      simp only [Bool.and_eq_true, Bool.or_eq_true] at c3
      obtain ⟨c3, c4⟩ := c3
      have plain : swapsWithSole [tg] v pos.line X.env = pure false → PS X (.Assign [tg] v pos) (tS g W (exS cf (.set p e))) := fun sw =>
        (ps_asg (snd_E e C X v W hG.good hG.tk c2).pe (pg_pat hG.good p tg c1) sw (stores_no c3) (assign_one c1)).imp fun D σ H h => asg_imp h
      rcases c4 with c4 | ⟨c4, c5⟩
      · exact plain (by rw [sole]; exact swaps_no c4)
      · split at c5
        · rename_i y py
          cases v with
          | ListComp el gs scope vpos =>
            cases hb : swB C y py (.ListComp el gs scope vpos) with
            | false => exact plain (by rw [sole, swaps_name hG, hb])
            | true =>
              cases p with
              | t is => unfold chkP at c1; cases c1
              | st is j => unfold chkP at c1; cases c1
              | s i =>
                unfold chkP at c1
                simp only [Bool.and_eq_true, beq_iff_eq] at c1
                have hyl : X.env.scope.names.lookup y = some .local := by
                  unfold swB at hb
                  simp only [Bool.and_eq_true, beq_iff_eq] at hb
                  rw [hG.good.sc]; exact hb.1.1
                have hN : X.N.Nodup := by rw [hG.good.N]; exact hG.good.nd
                cases e with
                | lc elt p k its cond =>
                  unfold chkE at c2
                  split at c2
                  · rename_i el' tg iter ifs scope' pos' heq
                    cases heq
                    simp only [Bool.and_eq_true] at c2
                    obtain ⟨⟨⟨⟨d1, d2⟩, d3⟩, d4⟩, d5⟩ := c2
                    split at d2
                    · rename_i xs ha
                      obtain ⟨hi, hs⟩ := it_sound (tg := tg) hG.good ha d2 (snd_L its C X xs W hG.good hG.tk d2) (fun x e => by
                        subst e
                        obtain ⟨e, h1, _, h2⟩ := snd_1 its C X x W hG.good hG.tk d2
                        exact ⟨e, h1, h2⟩)
                      have hok : BlkOk X.N X.env.scope scope (ownOf C p) := by rw [hG.good.N, hG.good.sc]; exact blkOk_by d1
                      refine (ps_setLc (own := ownOf C p) (tt := tR bEq g WF (denB cf cond)) (te := tR (RepV g) g WF (den cf elt)) hG.good.calm hN (hG.good.N ▸ c1.1) hyl (by rw [swaps_name hG, hb]) hi hok
                        (fun s H B cl fp => pg_pat (hG.good.inner s H scope cl B fp) p tg d3) (fun s H B cl fp => ?_) (fun s H B cl fp => (snd_E elt (L3.inner C scope) _ el WF (hG.good.inner s H scope cl B fp) takes0 d4).pe) hs).imp fun D σ H h => ?_
                      · split at d5
                        · refine L2.PTs.imp pts_nil fun σ H Q ⟨env, s, φ, hE, hS, hP⟩ => ?_
                          cases cond with
                          | c d =>
                            cases d with
                            | bl b =>
                              cases b with
                              | true =>
                                simp only [denB, den, R.bind_ok, Fk.asB] at hP
                                exact hP.here hS rfl
                              | false => cases d5
                            | _ => cases d5
                          | _ => cases d5
                        · exact pts_one (snd_E cond (L3.inner C scope) _ _ WF (hG.good.inner s H scope cl B fp) takes0 d5).pt
                        · cases d5
                      · have h' := asg_imp h
                        rw [own_slots]
                        refine lc_imp (tR_congr (Q := fun x H1 => gName i x σ H1 D.nx) (m := den cf (.lc elt p k its cond)) ?_ fun env s => ?_)
                        · obtain ⟨env, s, φ, hE, hS, hP⟩ := h'
                          refine ⟨env, s, φ, hE, hS, ?_⟩
                          have conv : ∀ (r : R Fk.D), PostR (RepV g) g H φ r (fun x H1 => gD g (.s i) x σ H1 D.nx) (fun c d H => W c d σ H) → PostR (RepV g) g H φ r (fun x H1 => gName i x σ H1 D.nx) (fun c d H => W c d σ H) := fun r hr => by
                            cases r with
                            | ok d s => 
                              intro v H2 φ2 y r2 h2
                              obtain ⟨d', env2, env2', s3, φ3, e1, e1r, e2, e3, e4⟩ := hr v H2 φ2 y r2 h2
                              have e3' : some (env2.set i (some d')) = some env2' := e3
                              cases e3'
                              exact e4 _ _ _ Ext.refl e1r (e1.set i e2) (wipe_set (by simp [Pat.slots]))
                            | err e s => exact hr
                            | bad => exact hr
                          exact conv _ hP
                        · simp only [den, R.assoc]
                          congr 1
                          funext ws s
                          cases itK k ws with
                          | none => rfl
                          | some items => rfl
                    · cases d2
                  · rename_i hne
                    cases c2
                | _ => unfold chkE at c2; cases c2
          | _ => cases c4
        · cases c5
    · cases c
  | .setSub o i e, X, W, hG, st, c => by
    unfold chkS at c
    split at c
    · rename_i a b p2 v pos
      simp only [Bool.and_eq_true] at c
      obtain ⟨⟨⟨⟨c1, c2⟩, c3⟩, c4⟩, c5⟩ := c
      have hs : ∀ v', assign (.Subscript a b p2) X.env v' = (do
          let ov ← holding [v'] (eval a X.env)
          let iv ← holding [v', ov] (eval b X.env)
          standAt p2
          holding [v', ov, iv] (setItem ov iv v')
          release [v', ov, iv] []) := by
        intro v'
        cases b <;> first | rfl | (cases c2; done)
      exact (ps_asg (snd_E e C X v W hG.good hG.tk c5).pe (pg_sub (snd_E o C X a W hG.good hG.tk c3).pe (snd_E i C X b W hG.good hG.tk c4).pe set_list hs) (by rw [sole]; exact swaps_no c1) (stores_no (by unfold notPar; rfl)) rfl).imp fun D σ H h => sub_set h
    · cases c
  | .fz i, X, W, hG, st, c => by unfold chkS at c; cases c
  | .ife k a b, X, W, hG, st, c => by
    unfold chkS at c
    split at c
    · rename_i t x y pos
      simp only [Bool.and_eq_true] at c
      refine (ps_if (snd_E k C X t W hG.good hG.tk c.1.1).pt (snd_B a X W hG x c.1.2) (snd_B b X W hG y c.2)).imp fun D σ H ⟨env, s, φ, hE, hS, hP⟩ => ?_
      simp only [exS] at hP
      refine ⟨env, s, φ, hE, hS, ?_⟩
      have hP' : PostS g W H φ ((denB cf k env s).toS env fun k s => if k then exB cf a env s else exB cf b env s) D := by
        unfold denB
        cases q : den cf k env s with
        | ok d s1 =>
          rw [q] at hP
          simp only [R.toS] at hP
          simp only [R.bind_ok]
          cases d <;> first | exact hP | exact hP.elim
        | err e s1 => rw [q] at hP; exact hP
        | bad => rw [q] at hP; exact hP
      refine hP'.expr hE fun kb s1 kb' H1 φ1 x1 r1 v1 p1 => ?_
      have hv : kb = kb' := v1
      subst hv
      cases kb with
      | true => exact ⟨env, s1, φ1, hE.ext x1, r1, p1⟩
      | false => exact ⟨env, s1, φ1, hE.ext x1, r1, p1⟩
    · cases c
  | .forr p k its body, X, W, hG, st, c => by
    unfold chkS at c
    split at c
    · rename_i tg iter bd pos
      simp only [Bool.and_eq_true] at c
      obtain ⟨⟨c1, c2⟩, c3⟩ := c
      split at c1
      · rename_i xs ha
        obtain ⟨hi, hs⟩ := it_sound (tg := tg) hG.good ha c1 (snd_L its C X xs W hG.good hG.tk c1) (fun x e => by
          subst e
          obtain ⟨e, h1, _, h2⟩ := snd_1 its C X x W hG.good hG.tk c1
          exact ⟨e, h1, h2⟩)
        exact (ps_for hG.po hG.good.calm hi (pg_pat hG.good p tg c2) (snd_B body X W hG bd c3) hs).imp fun D σ H h => for_imp h
      · cases c1
    · cases c
  | .ret e, X, W, hG, st, c => by
    unfold chkS at c
    split at c
    · rename_i x pos
      refine (ps_ret (snd_E e C X x W hG.good hG.tk c).pe).imp fun D σ H ⟨env, s, φ, hE, hS, hP⟩ => ?_
      simp only [exS] at hP
      exact ⟨env, s, φ, hE, hS, hP.expr hE fun d s1 x H1 φ1 x1 r1 v1 p1 => p1 _ _ _ Ext.refl r1 v1⟩
    · split at c
      · refine ps_retN.imp fun D σ H ⟨env, s, φ, hE, hS, hP⟩ => ?_
        simp only [exS, den, R.toS] at hP
        exact hP _ _ _ Ext.refl hS repv_of_none
      · cases c
    · cases c
  | .pass, X, W, hG, st, c => by
    unfold chkS at c
    split at c
    · refine ps_pass.imp fun D σ H ⟨env, s, φ, hE, hS, hP⟩ => ?_
      simp only [exS] at hP
      exact hP.nx hE hS
    · unfold isDoc at c
      split at c
      · refine ps_doc.imp fun D σ H ⟨env, s, φ, hE, hS, hP⟩ => ?_
        simp only [exS] at hP
        exact hP.nx hE hS
      · cases c
  | .raise k, X, W, hG, st, c => by
    unfold chkS at c
    split at c
    · rename_i x _ m _ _ _ _
      simp only [Bool.and_eq_true, beq_iff_eq] at c
      obtain ⟨⟨c1, c2⟩, c3⟩ := c
      unfold isDbg at c3
      simp only [Bool.not_eq_true', Bool.or_eq_false_iff] at c3
      obtain ⟨C1, m1, m2⟩ := hG.good.tab.exc k x c1
      refine (ps_raise hG.good.calm hG.tk (pmk_own PySem.F.excBase_ValueError (by rw [hG.good.K]; exact m2.ex) (by rw [hG.good.mg]; exact m1) (by rw [hG.good.K]; exact m2.kp) (raises_own (by rw [hG.good.K]; exact m2.sb) (by rw [hG.good.K]; exact m2.ty)) (hG.good.gl c2) c3.1)).imp fun D σ H ⟨env, s, φ, hE, hS, hP⟩ => ?_
      simp only [exS] at hP
      exact hP _ _ σ H φ Ext.refl hE hS ⟨x, C1, by rw [hG.good.tab.excs]; exact c1, m1, rfl, rfl⟩
    · cases c
  | .tryR body m h sl es, X, W, hG, st, c => by
    unfold chkS at c
    split at c
    · rename_i bd x np n xs p1 p2 p3 p4
      simp only [Bool.and_eq_true, beq_iff_eq, decide_eq_true_eq] at c
      obtain ⟨⟨⟨⟨⟨⟨⟨⟨c1, c2⟩, c3⟩, c4⟩, c5⟩, c6⟩, c7⟩, c8⟩, c9⟩ := c
      unfold isDbg at c3
      simp only [Bool.not_eq_true', Bool.or_eq_false_iff] at c3
      obtain ⟨C1, m1, m2⟩ := hG.good.tab.exc h x c1
      have hln : X.env.kindOf n = some .local := by
        show X.env.scope.names.lookup n = _
        rw [hG.good.sc]; exact c5
      refine (ps_try_as (c := .ref C1) (i := sl) (tb := fun W => tS g W (exB cf body)) (ts := tSuite g (es := es) sl) (Wout := W) hG.stk hG.frm (by rw [hG.good.N]; exact hG.good.nd) (by rw [hG.good.N]; exact c4) hln ⟨hG.good.gl c2, c3.1, .inl (by rw [hG.good.mg]; exact m1)⟩ hG.tk
        (fun W' pn xe tk' po' => snd_B body (X.tr pn xe) W' ⟨⟨hG.good.K, hG.good.mg, hG.good.w, hG.good.sc, hG.good.N, hG.good.nd, hG.good.fn, hG.good.calm, hG.good.tab, hG.good.room⟩, tk', po', hG.fnk, hG.stk, hG.frm⟩ bd c8)
        (fun a oe cls d pn hz hf => suite_ok hG c4 c9 c7 hz hf)).imp fun D σ H ⟨env, s, φ, hE, hS, hP⟩ => ?_
      simp only [exS] at hP
      refine ⟨env, s, φ, hE, hS, ?_⟩
      cases q : exB cf body env s with
      | bad => rw [q] at hP; exact hP
      | ok f s1 => rw [q] at hP; cases f <;> exact hP
      | err e env1 s1 =>
        rw [q] at hP
        intro cls d σ' H' φ' y hE' hS' hx
        obtain ⟨nm, C2, q1, q2, q3, q4⟩ := id hx
        subst q3
        have hb : m.contains e.cls = T.subs.contains (e.cls, h) := by
          have := List.all_eq_true.mp c6 e.cls (List.mem_range.mpr (by
            have := (List.getElem?_eq_some_iff.mp q1).1
            rw [hG.good.tab.excs] at this; exact this))
          simpa using this
        rw [hG.good.tab.excs] at q1
        obtain ⟨s1x, _⟩ := hG.good.tab.sub e.cls h nm x C2 C1 q1 c1 q2 m1
        refine ⟨T.subs.contains (e.cls, h), by rw [hG.good.K]; exact s1x, fun ht a ha => ?_, fun hf => ?_⟩
        · simp only [RS.caught] at hP
          rw [hb, ht, if_pos rfl] at hP
          cases ha2 : e.arg with
          | some _ => rw [ha2] at hP; exact hP.elim
          | none =>
            rw [ha2] at hP q4
            refine ⟨e.cls, nm, C2, by rw [hG.good.tab.excs]; exact q1, q2, rfl, q4, ?_, fun p hp => ?_⟩
            · by_cases hl : sl < σ'.length
              · exact .inl (List.getElem?_set_self hl)
              · exact .inr (by simpa using Nat.le_of_not_lt hl)
            · have x0 := Ext.new_ hS' hp (.lst (es.map (suW e.cls)))
              refine hP _ _ φ' (y.trans x0) (hS'.new_ hp _) ?_
              unfold RepV
              exact ⟨p, _, rfl, hS'.notLive hp, upd_same, su_rep es xs c9, by rw [List.length_map, ← su_len es xs c9, ← sl_eq]; exact Nat.le_trans c7 (by decide)⟩
        · simp only [RS.caught] at hP
          rw [hb, hf, if_neg Bool.false_ne_true] at hP
          exact hP _ _ σ' H' φ' y hE' hS' ⟨nm, C2, by rw [hG.good.tab.excs]; exact q1, q2, rfl, q4⟩
    · cases c
theorem snd_B {g : G} {T : Tab} {cf : CF} {C : SC} : ∀ (ts : List IS) (X : Cx) (W : WX), GoodS g T cf C X W → ∀ (sts : List Stmt), chkB T ts C sts = true → PSs X sts (tS g W (exB cf ts))
  | [], X, W, hG, sts, c => by
    unfold chkB at c
    simp only [List.isEmpty_iff] at c
    subst c
    refine pss_nil.imp fun D σ H ⟨env, s, φ, hE, hS, hP⟩ => ?_
    simp only [exB] at hP
    exact hP.nx hE hS
  | t :: ts, X, W, hG, sts, c => by
    unfold chkB at c
    split at c
    · rename_i hf
      cases t with
      | fz i => exact (snd_B ts X W hG sts c).imp fun D σ H h => fz_imp h
      | _ => cases hf
    · cases sts with
      | nil => cases c
      | cons st sts =>
        simp only [Bool.and_eq_true] at c
        refine (pss_cons (snd_S t X W hG st c.1) (snd_B ts X W hG sts c.2)).imp fun D σ H ⟨env, s, φ, hE, hS, hP⟩ => ?_
        simp only [exB] at hP
        refine ⟨env, s, φ, hE, hS, ?_⟩
        cases q : exS cf t env s with
        | ok f s1 =>
          rw [q] at hP
          cases f with
          | nx env1 => exact fun σ' H' φ' y hE' hS' => ⟨env1, s1, φ', hE', hS', PostS.ext (D := D) hP y⟩
          | rt d => exact hP
          | bk e => exact hP
          | ct e => exact hP
        | err x e s1 => rw [q] at hP; exact hP
        | bad => rw [q] at hP; exact hP
end
end
end L3

set_option Elab.async false
set_option linter.all false
set_option autoImplicit false
set_option maxRecDepth 100000
set_option maxHeartbeats 8000000
/-! FkBind: parameters, plain. -/
namespace L3
open PySem PySem.Spec PyProof.Rows L2 Fk

theorem zip_lookup {α : Type} {n : PySem.Str} : ∀ {ps : List PySem.Str} {us : List α}, us.length = ps.length → n ∈ ps → ∃ v, (ps.zip us).lookup n = some v
  | [], _, _, h => by cases h
  | p :: ps, [], l, _ => by cases l
  | p :: ps, u :: us, l, h => by
    rw [List.zip_cons_cons, List.lookup_cons]
    cases e : n == p with
    | true => exact ⟨u, rfl⟩
    | false =>
      have hne : n ≠ p := by simpa using e
      exact zip_lookup (by simpa using l) ((List.mem_cons.mp h).resolve_left hne)
theorem zip_back {α : Type} : ∀ {ps : List PySem.Str} {us : List α} (f : PySem.Str → Option α), us.length = ps.length → (∀ (i : Nat) (n : PySem.Str), ps[i]? = some n → f n = us[i]?) → ps.filterMap (fun n => (f n).map (n, ·)) = ps.zip us
  | [], [], _, _, _ => rfl
  | [], _ :: _, _, l, _ => by cases l
  | p :: ps, [], _, l, _ => by cases l
  | p :: ps, u :: us, f, l, h => by
    have h0 : f p = some u := h 0 p rfl
    rw [List.filterMap_cons, h0]
    simp only [Option.map_some, List.zip_cons_cons]
    rw [zip_back f (by simpa using l) fun i n e => by have := h (i + 1) n (by simpa using e); simpa using this]
theorem zip_at {α : Type} : ∀ {ps : List PySem.Str} {us : List α}, ps.Nodup → us.length = ps.length → ∀ (i : Nat) (n : PySem.Str), ps[i]? = some n → (ps.zip us).lookup n = us[i]?
  | [], _, _, _, i, n, e => by simp at e
  | p :: ps, [], _, l, _, _, _ => by cases l
  | p :: ps, u :: us, nd, l, i, n, e => by
    rw [List.zip_cons_cons, List.lookup_cons]
    cases i with
    | zero =>
      have e' : p = n := by simpa using e
      subst e'
      simp
    | succ i =>
      have e' : ps[i]? = some n := by simpa using e
      have hne : (n == p) = false := by
        rw [beq_eq_false_iff_ne]
        rintro rfl
        exact (List.nodup_cons.mp nd).1 (List.mem_of_getElem? e')
      rw [hne]
      have := zip_at (us := us) (List.nodup_cons.mp nd).2 (by simpa using l) i n e'
      simpa using this
/-- plain parameters -/
def plainPs (p : Arguments) (ps : List PySem.Str) : Bool :=
  p.posonlyargs.isEmpty && decide (p.args.map (·.arg) = ps) && p.vararg.isNone && p.kwonlyargs.isEmpty && p.kwarg.isNone && decide ps.Nodup
theorem bind_plain {x qual : PySem.Str} {params : Arguments} {body : List Stmt} {scope : Scope} {kV doc pm : Value} {an : Option Addr} {cdv ct : Value} {ps : List PySem.Str} {us : List Value} (h : plainPs params ps = true) (l : us.length = ps.length) :
    bindArgs (PySem.W.fnOf x qual params body scope .none kV doc pm an cdv ct) ⟨us, []⟩ = pure (ps.zip us) := by
  unfold plainPs at h
  simp only [Bool.and_eq_true, List.isEmpty_iff, decide_eq_true_eq, Option.isNone_iff_eq_none] at h
  obtain ⟨⟨⟨⟨⟨h1, h2⟩, h3⟩, h4⟩, h5⟩, h6⟩ := h
  obtain ⟨po, ar, va, ko, kd, kw, df⟩ := params
  simp only at h1 h2 h3 h4 h5
  subst h1 h3 h4 h5
  have m : (ps.filter fun n => ((ps.zip us).lookup n).isNone) = [] := by
    rw [List.filter_eq_nil_iff]
    intro n hn
    obtain ⟨v, e⟩ := zip_lookup l hn
    rw [e]; simp
  have b : (ps.filterMap fun n => ((ps.zip us).lookup n).map (n, ·)) = ps.zip us := zip_back _ l (zip_at h6 l)
  have e1 : ar.map (fun a => a.arg) = ps := h2
  unfold bindArgs
  simp only [PySem.W.fnOf, e1, List.map_nil, List.nil_append, List.append_nil]
  simp [seqItems?, l, m, b]
  rfl
end L3

set_option Elab.async false
set_option linter.all false
set_option autoImplicit false
set_option maxRecDepth 100000
set_option maxHeartbeats 8000000
/-! FkFn: defs keep their promises; what stands behind the top. -/
namespace L3
open PySem PySem.Spec PyProof.Rows L2 Fk

structure FD where
  x : PySem.Str
  N : List PySem.Str
  fn : Fk.Fn
  params : Arguments
  body : List Stmt
  scope : Scope
def FD.ok (T : Tab) (d : FD) : Bool :=
  C8.scC d.N (d.N.take d.fn.np) d.scope && decide (d.fn.np ≤ d.N.length) && decide (d.fn.ns = d.N.length) && plainPs d.params (d.N.take d.fn.np) && chkB T d.fn.body ⟨d.scope, d.N, fun _ => true⟩ d.body && decide (d.scope.kind = .function)
structure Facts (g : G) (T : Tab) (ds : List FD) : Prop where
  tab : TabOk g T
  fns : g.fns = ds.map (·.x)
  def_ : ∀ d ∈ ds, ∃ fa fd, g.mg d.x = some (.ref fa) ∧ FunD g.K d.x d.x d.params d.body d.scope [] [] fa fd
  ok : ∀ d ∈ ds, d.ok T = true

section
variable {g : G} {H : Hp} {φ : Phi}
theorem start_rep {fn : Fk.Fn} {N : List PySem.Str} {ds : List D} {vs : List V} (h : RepL g H φ ds vs) (hn : fn.ns = N.length) (hp : ds.length = fn.np) : RepE g H φ (Fk.start fn ds) (L2.start N vs) := by
  have l := h.length
  unfold Fk.start L2.start
  rw [hn, ← hp, l]
  refine ⟨by simp [l], fun i d e => ?_⟩
  by_cases hi : i < ds.length
  · rw [List.getElem?_append_left (by simpa using hi)] at e
    rw [List.getElem?_append_left (by simp; omega)]
    rw [List.getElem?_map] at e
    cases q : ds[i]? with
    | none => rw [q] at e; cases e
    | some d' =>
      rw [q] at e
      cases e
      obtain ⟨v, hv, r⟩ := h.get q
      exact ⟨v, by rw [List.getElem?_map, hv]; rfl, r⟩
  · rw [List.getElem?_append_right (by simpa using hi)] at e
    rw [List.getElem?_replicate] at e
    split at e <;> simp at e
theorem back_post {s : Fk.St} {r : RS} {Q : VK} {E : XK} (hS : Rep g H φ s) (p : PostR (RepV g) g H φ (back s r) Q E) :
    PostS g (fun cls d _ H => E cls d H) H φ r { nx := fun _ H' => Q .non H', rt := Q } := by
  have hl := hS.len
  cases r with
  | bad => exact p
  | err x env s' =>
    intro cls d σ' H' φ' y hE' hS' hx
    refine p cls d H' (φ'.cut (max s.length (match x.arg with | some a => a.top | Option.none => 0))) (y.cut (by omega)) (hS'.cut _) ?_
    obtain ⟨nm, C, q1, q2, q3, q4⟩ := hx
    refine ⟨nm, C, q1, q2, q3, ?_⟩
    cases ha : x.arg with
    | none => rw [ha] at q4; exact q4
    | some a =>
      rw [ha] at q4
      obtain ⟨dd, v, z1, z2, z3⟩ := q4
      exact ⟨dd, v, z1, z2, RepV.take a z3 (Nat.le_max_right ..)⟩
  | ok f s' =>
    cases f with
    | nx env =>
      intro σ' H' φ' y hE' hS'
      exact p .non H' (φ'.cut s.length) (y.cut (by omega)) (hS'.cut _) repv_of_none
    | rt d =>
      intro v H' φ' y hS' hv
      exact p v H' (φ'.cut (max s.length d.top)) (y.cut (by omega)) (hS'.cut _) (RepV.take d hv (Nat.le_max_right ..))
    | bk env => exact p.elim
    | ct env => exact p.elim
/-- a def at the next level -/
theorem fn_next {T : Tab} {ds : List FD} (hF : Facts g T ds) {P : Program} {w : World} (hw : w = g.w) {base : Heap} {n : Nat} (ih : Calls P w g base n (callF (ds.map (·.fn)) n)) {f : Nat} {d : FD} (q : ds[f]? = some d) {fa : Addr} {fd : FuncData}
    (h2 : FunD g.K d.x d.x d.params d.body d.scope [] [] fa fd) : FnOk P w g.K g.mg base (L2.CX P w) (n + 1) fa fd (d.N.take d.fn.np) (spOf g (d.N.take d.fn.np).length (callF (ds.map (·.fn)) (n + 1) f)) := by
  have hok := hF.ok d (List.mem_of_getElem? q)
  unfold FD.ok at hok
  simp only [Bool.and_eq_true, decide_eq_true_eq] at hok
  obtain ⟨⟨⟨⟨⟨o1, o2⟩, o3⟩, o4⟩, o5⟩, o6⟩ := hok
  have S := C8.fnScope_by o1
  have lps : (d.N.take d.fn.np).length = d.fn.np := by rw [List.length_take]; omega
  have hPf : (ds.map (·.fn))[f]? = some d.fn := by rw [List.getElem?_map, q]; rfl
  refine h2.ok S (fun vs H Q E h => h.1) fun cdv A outer s H vs Q E hr ⟨hl, ds', st, φ, hS, hL, hP⟩ => ?_
  have hlen : ds'.length = d.fn.np := by rw [hL.length, hl, lps]
  have hP' : PostR (RepV g) g H φ (back st (exB (callF (ds.map (·.fn)) n) d.fn.body (Fk.start d.fn ds') st)) Q E := by
    have : callF (ds.map (·.fn)) (n + 1) f ds' st = back st (exB (callF (ds.map (·.fn)) n) d.fn.body (Fk.start d.fn ds') st) := by
      simp only [callF, hPf]
      rw [if_pos hlen]
    rw [← this]; exact hP
  refine ⟨tS g (fun cls d _ H => E cls d H) (exB (callF (ds.map (·.fn)) n) d.fn.body), ?_, Fk.start d.fn ds', st, φ, start_rep hL o3 hlen, hS, back_post hS hP'⟩
  refine snd_B (T := T) (C := ⟨d.scope, d.N, fun _ => true⟩) d.fn.body _ _ ?_ d.body o5
  exact ⟨⟨rfl, rfl, hw, rfl, rfl, S.nd, rfl, rfl, hF.tab, n, hr, ih⟩, takes_of rfl rfl rfl rfl, passes_of rfl, o6, rfl, rfl⟩
theorem calls {T : Tab} {ds : List FD} (hF : Facts g T ds) {P : Program} {w : World} (hw : w = g.w) {base : Heap} : ∀ n, Calls P w g base n (callF (ds.map (·.fn)) n) := by
  intro n
  induction n with
  | zero =>
    refine ⟨fun f x hx => ?_⟩
    rw [hF.fns, List.getElem?_map] at hx
    cases q : ds[f]? with
    | none => rw [q] at hx; cases hx
    | some d =>
      rw [q] at hx
      cases hx
      have hd := List.mem_of_getElem? q
      obtain ⟨fa, fd, h1, h2⟩ := hF.def_ d hd
      have hok := hF.ok d hd
      unfold FD.ok at hok
      simp only [Bool.and_eq_true, decide_eq_true_eq] at hok
      refine ⟨fa, fd, d.N.take d.fn.np, h1, h2.kp, ⟨fun vs H Q E h => h.1, fun A outer s H args us vs Q E _ _ _ _ ⟨_, _, _, _, _, _, p⟩ => p.elim⟩, h2.bindsN fun kV doc pm an cdv ct us l => bind_plain hok.1.1.2 l, fun _ _ _ => rfl⟩
  | succ n ih =>
    refine ⟨fun f x hx => ?_⟩
    rw [hF.fns, List.getElem?_map] at hx
    cases q : ds[f]? with
    | none => rw [q] at hx; cases hx
    | some d =>
      rw [q] at hx
      cases hx
      have hd := List.mem_of_getElem? q
      obtain ⟨fa, fd, h1, h2⟩ := hF.def_ d hd
      have hok := hF.ok d hd
      unfold FD.ok at hok
      simp only [Bool.and_eq_true, decide_eq_true_eq] at hok
      have lps : (d.N.take d.fn.np).length = d.fn.np := by rw [List.length_take]; omega
      have hPf : (ds.map (·.fn))[f]? = some d.fn := by rw [List.getElem?_map, q]; rfl
      refine ⟨fa, fd, d.N.take d.fn.np, h1, h2.kp, fn_next hF hw ih q h2, h2.bindsN fun kV doc pm an cdv ct us l => bind_plain hok.1.1.2 l, fun ds' s hne => ?_⟩
      simp only [callF, hPf]
      rw [if_neg (by rw [← lps]; exact hne)]
end

/-! ### constants -/
mutual
def statB (K : PySem.W.Frag) (fns : List PySem.Str) : D → Value → Bool
  | .none, .none => true
  | .bl b, .bool c => b == c
  | .int i, .int j _ => i == j
  | .str z, .str y _ => y.cps.toList == z
  | .tup ds, .ref a => (match K.lookup a with
    | some ⟨.type c, _, .seq its _, _⟩ => c == "tuple" && decide (its.size ≤ PySem.sizeLine) && statL K fns ds its.toList
    | _ => false)
  | .fn f, .ref a => (match fns[f]? with
    | some x => He.eqO (PySem.W.nsIn K mainGlobals x) (some (some (.ref a)))
    | none => false)
  | .ty t, .type n => n == tyName t
  | _, _ => false
def statL (K : PySem.W.Frag) (fns : List PySem.Str) : List D → List Value → Bool
  | [], [] => true
  | d :: ds, u :: us => statB K fns d u && statL K fns ds us
  | _, _ => false
end
mutual
theorem statB_ok {g : G} (hm : ∀ x u, PySem.W.nsIn g.K mainGlobals x = some (some u) → g.mg x = some u) : ∀ (d : D) (u : Value), statB g.K g.fns d u = true → ∃ v, RelV v u ∧ ∀ H φ, RepV g H φ d v
  | .none, u, h => by
    cases u <;> first | (simp [statB] at h; done) | skip
    exact ⟨.non, rfl, fun _ _ => repv_of_none⟩
  | .bl b, u, h => by
    cases u <;> first | (simp [statB] at h; done) | skip
    simp only [statB, beq_iff_eq] at h
    subst h
    exact ⟨.bl b, rfl, fun _ _ => repv_of_bl⟩
  | .int i, u, h => by
    cases u <;> first | (simp [statB] at h; done) | skip
    simp only [statB, beq_iff_eq] at h
    subst h
    exact ⟨.int i, ⟨_, rfl⟩, fun _ _ => repv_of_int⟩
  | .str z, u, h => by
    cases u <;> first | (simp [statB] at h; done) | skip
    rename_i y t
    simp only [statB, beq_iff_eq] at h
    subst h
    refine ⟨.str y, ⟨_, rfl⟩, fun _ _ => ?_⟩
    have := repv_of_str (g := g) (H := ‹_›) (φ := ‹_›) (z := y.cps.toList)
    exact this
  | .tup ds, u, h => by
    cases u <;> first | (simp [statB] at h; done) | skip
    rename_i a
    simp only [statB] at h
    split at h
    · rename_i c od its n sl e
      simp only [Bool.and_eq_true, decide_eq_true_eq, beq_iff_eq] at h
      obtain ⟨⟨rfl, h2⟩, h3⟩ := h
      obtain ⟨vs, q1, q2⟩ := statL_ok hm ds _ h3
      refine ⟨.ref a, rfl, fun H φ => ?_⟩
      unfold RepV
      exact ⟨a, vs, rfl, .inl ⟨_, its, n, e, rfl, rfl, h2, q1⟩, q2 H φ, by rw [q1.length]; simpa using h2⟩
    · cases h
  | .fn f, u, h => by
    cases u <;> first | (simp [statB] at h; done) | skip
    rename_i a
    simp only [statB] at h
    split at h
    · rename_i x e
      refine ⟨.ref a, rfl, fun H φ => ?_⟩
      unfold RepV
      exact ⟨x, a, e, hm x _ (He.eqO_ok h), rfl⟩
    · cases h
  | .ty t, u, h => by
    cases u <;> first | (simp [statB] at h; done) | skip
    simp only [statB, beq_iff_eq] at h
    subst h
    refine ⟨.ty (tyName t), rfl, fun H φ => ?_⟩
    unfold RepV; rfl
  | .lst _, u, h => by simp [statB] at h
  | .dic _ _, u, h => by simp [statB] at h
  | .set _, u, h => by simp [statB] at h
  | .scr _, u, h => by simp [statB] at h
  | .ref _, u, h => by simp [statB] at h
  | .tab _ _, u, h => by simp [statB] at h
theorem statL_ok {g : G} (hm : ∀ x u, PySem.W.nsIn g.K mainGlobals x = some (some u) → g.mg x = some u) : ∀ (ds : List D) (us : List Value), statL g.K g.fns ds us = true → ∃ vs, Vals vs us ∧ ∀ H φ, RepL g H φ ds vs
  | [], [], _ => ⟨[], .nil, fun _ _ => by simp [RepL]⟩
  | [], _ :: _, h => by simp [statL] at h
  | _ :: _, [], h => by simp [statL] at h
  | d :: ds, u :: us, h => by
    simp only [statL, Bool.and_eq_true] at h
    obtain ⟨v, q1, q2⟩ := statB_ok hm d u h.1
    obtain ⟨vs, q3, q4⟩ := statL_ok hm ds us h.2
    refine ⟨v :: vs, .cons q1 q3, fun H φ => ?_⟩
    unfold RepL
    exact ⟨v, vs, rfl, q2 H φ, q4 H φ⟩
end
def constsB (T : Tab) (K : PySem.W.Frag) : Bool := T.consts.all fun q => match PySem.W.nsIn K mainGlobals q.1 with
  | some (some u) => statB K T.fns q.2 u
  | _ => false
def FD.d (d : FD) : He.DefD := ⟨(d.x, none), d.x, d.x, d.params, d.body, d.scope, [], []⟩
def faOf (T : Tab) : List He.Fa := T.fns.map .glo ++ T.blts.map .free
def tabsB (T : Tab) (K : PySem.W.Frag) : Bool := T.tabs.all fun q => He.eqO (PySem.W.nsIn K mainGlobals q.1) (some (some (.ref (He.ga K q.1)))) && q.2.all fun p => match PySem.W.nsIn K (He.ga K q.1) (strV p.1) with
  | some (some u) => statB K T.fns p.2 u
  | _ => false
def excCB (K : PySem.W.Frag) (D : Addr) : Bool :=
  He.eqO (PySem.W.findIn K (.ref D) "__getattribute__") (some (some (.builtin "BaseException.__getattribute__"))) && (He.eqO (PySem.W.findIn K (.ref D) "__getattr__") (some none) && (decide (PySem.W.subIn K (.ref D) (.type "BaseException") = some true) && (PySem.W.hasDictIn K D && (He.eqO (PySem.W.findIn K (.ref D) "__class__") (some (some (.builtin "object.__class__"))) &&
    (He.eqO (PySem.W.specialIn K (.builtin "object.__class__") "__get__") (some (some (.builtin "getset_descriptor.__get__"))) && (decide (PySem.W.takesIn K (.builtin "object.__class__") = some true) && decide (PySem.W.mroIn K D (.type "object") = some true)))))))
def excsB (T : Tab) (K : PySem.W.Frag) : Bool := T.excs.all fun nm => He.eqO (PySem.W.nsIn K mainGlobals nm) (some (some (.ref (He.ga K nm)))) && ((He.Fa.exc nm).ok K && excCB K (He.ga K nm))
def subsB (T : Tab) (K : PySem.W.Frag) : Bool := (List.range T.excs.length).all fun c => (List.range T.excs.length).all fun c' => match T.excs[c]?, T.excs[c']? with
  | some nm, some nm' => decide (PySem.W.exmOne K (.ref (He.ga K nm)) (.ref (He.ga K nm')) = some (T.subs.contains (c, c'))) && decide (PySem.W.kitOne K (.ref (He.ga K nm)) (.ref (He.ga K nm')) = some (T.subs.contains (c, c')))
  | _, _ => false
def tsOf (T : Tab) : List He.Tab := T.tabs.map fun q => ((fun K => He.ga K q.1), q.2.map fun p => strV p.1)
abbrev exOf (T : Tab) : PySem.W.Frag → Bool := fun K => constsB T K && (tabsB T K && (excsB T K && subsB T K))
theorem excCB_ok {K : PySem.W.Frag} {D : Addr} (h : excCB K D = true) : ExcC K D := by
  obtain ⟨h1, h⟩ := He.ba h
  obtain ⟨h2, h⟩ := He.ba h
  obtain ⟨h3, h⟩ := He.ba h
  obtain ⟨h4, h⟩ := He.ba h
  obtain ⟨h5, h⟩ := He.ba h
  obtain ⟨h6, h⟩ := He.ba h
  obtain ⟨h7, h8⟩ := He.ba h
  exact ⟨He.eqO_ok h1, He.eqO_ok h2, of_decide_eq_true h3, h4, He.eqO_ok h5, He.eqO_ok h6, of_decide_eq_true h7, of_decide_eq_true h8⟩
theorem tab_vals {g : G} (hm : ∀ x u, PySem.W.nsIn g.K mainGlobals x = some (some u) → g.mg x = some u) {a : Addr} : ∀ (l : List (List Nat × D)), (l.all fun p => match PySem.W.nsIn g.K a (strV p.1) with
    | some (some u) => statB g.K g.fns p.2 u
    | _ => false) = true →
    ∃ us : List V, (∀ H φ, RepL g H φ (l.map (·.2)) us) ∧ us.length = l.length ∧ ∀ (i : Nat) (k : List Nat) (v : V), (l.map (·.1))[i]? = some k → us[i]? = some v → ∃ u, PySem.W.nsIn g.K a (strV k) = some (some u) ∧ RelV v u
  | [], _ => ⟨[], fun _ _ => by simp [RepL], rfl, fun i k v e => by simp at e⟩
  | p :: l, h => by
    rw [List.all_cons, Bool.and_eq_true] at h
    obtain ⟨us, h1, h2, h3⟩ := tab_vals hm l h.2
    have h0 := h.1
    split at h0
    · rename_i u e
      obtain ⟨v, q1, q2⟩ := statB_ok hm p.2 u h0
      refine ⟨v :: us, fun H φ => ?_, by simp [h2], fun i k w e1 e2 => ?_⟩
      · rw [List.map_cons]
        unfold RepL
        exact ⟨v, us, rfl, q2 H φ, h1 H φ⟩
      · cases i with
        | zero =>
          simp at e1 e2
          subst e1 e2
          exact ⟨u, e, q1⟩
        | succ i => exact h3 i k w (by simpa using e1) (by simpa using e2)
    · cases h0
theorem facts_of {K : PySem.W.Frag} {h : Heap} {w : World} {mg : PySem.Str → Option Value} {T : Tab} {ds : List FD} (X : K.In h) (G : h.Ns mainGlobals mg) (hf : T.fns = ds.map (·.x)) (hok : (ds.all fun d => d.ok T) = true)
    (c : He.SaysX (faOf T) (ds.map FD.d) (tsOf T) [] (exOf T) w h K) : Facts ⟨K, mg, T.fns, T.excs, w⟩ T ds := by
  have cd : He.SaysD (faOf T) (ds.map FD.d) K := c.t.d
  have hm : ∀ x u, PySem.W.nsIn K mainGlobals x = some (some u) → mg x = some u := fun x u e => PySem.W.mg_of X G e
  obtain ⟨k1, k2⟩ := He.ba (show (constsB T K && (tabsB T K && (excsB T K && subsB T K))) = true from c.more)
  obtain ⟨k2, k3⟩ := He.ba k2
  obtain ⟨k3, k4⟩ := He.ba k3
  have exc1 : ∀ nm ∈ T.excs, mg nm = some (.ref (He.ga K nm)) ∧ ExcCls ⟨K, mg, T.fns, T.excs, w⟩ (He.ga K nm) := fun nm hn => by
    obtain ⟨e1, e2⟩ := He.ba (List.all_eq_true.mp k3 nm hn)
    obtain ⟨e2, e3⟩ := He.ba e2
    obtain ⟨x1, x2, x3, x4⟩ := He.exc_ok e2
    exact ⟨hm nm _ (He.eqO_ok e1), x1, x2, x3, x4, excCB_ok e3⟩
  refine ⟨⟨rfl, rfl, fun x d e => ?_, fun x e => ?_, fun x l e => ?_, fun k nm e => ?_, fun k k' nm nm' C C' e1 e2 e3 e4 => ?_⟩, hf, fun d hd => ?_, fun d hd => List.all_eq_true.mp hok d hd⟩
  rotate_left 1
  · exact He.free_ok X G (cd.facts (f := .free x) (List.mem_append_right _ (List.mem_map.mpr ⟨x, List.contains_iff_mem.mp e, rfl⟩)))
  · have hmem : (x, l) ∈ T.tabs := by
      have : ∀ m : List (PySem.Str × List (List Nat × D)), m.lookup x = some l → (x, l) ∈ m := fun m => by
        induction m with
        | nil => intro h; cases h
        | cons q m ih =>
          intro h
          obtain ⟨y, e⟩ := q
          rw [List.lookup_cons] at h
          cases z : x == y with
          | true => rw [z] at h; cases h; have := beq_iff_eq.mp z; subst this; exact List.mem_cons_self
          | false => rw [z] at h; exact List.mem_cons_of_mem _ (ih h)
      exact this _ e
    obtain ⟨i, hi, ei⟩ := List.mem_iff_getElem.mp hmem
    obtain ⟨es, n, kd⟩ := c.t.tab i (t := ((fun K => He.ga K x), l.map fun p => strV p.1)) (by
      unfold tsOf
      rw [List.getElem?_map, List.getElem?_eq_getElem hi, ei]; rfl)
    obtain ⟨t1, t2⟩ := He.ba (List.all_eq_true.mp k2 (x, l) hmem)
    obtain ⟨us, u1, u2, u3⟩ := tab_vals (g := ⟨K, mg, T.fns, T.excs, w⟩) hm (a := He.ga K x) l t2
    refine ⟨.ref (He.ga K x), .ref (He.ga K x), hm x _ (He.eqO_ok t1), rfl, fun H φ => ?_⟩
    unfold tabD RepV
    exact ⟨_, us, rfl, ⟨⟨es, n, kd.at_, kd.lit⟩, u3⟩, u1 H φ, by rw [List.length_map, u2]⟩
  · exact ⟨_, exc1 nm (List.mem_of_getElem? e)⟩
  · obtain ⟨f1, _⟩ := exc1 nm (List.mem_of_getElem? e1)
    obtain ⟨f2, _⟩ := exc1 nm' (List.mem_of_getElem? e2)
    have c1 : C = He.ga K nm := by
      have := f1.symm.trans e3
      cases this; rfl
    have c2 : C' = He.ga K nm' := by
      have := f2.symm.trans e4
      cases this; rfl
    have r1 := List.all_eq_true.mp k4 k (List.mem_range.mpr (List.getElem?_eq_some_iff.mp e1).1)
    have r2 := List.all_eq_true.mp r1 k' (List.mem_range.mpr (List.getElem?_eq_some_iff.mp e2).1)
    simp only [e1, e2] at r2
    obtain ⟨r3, r4⟩ := He.ba r2
    rw [c1, c2]
    exact ⟨of_decide_eq_true r3, of_decide_eq_true r4⟩
  rotate_left 1
  · have h1 : constsB T K = true := k1
    unfold constsB at h1
    have hmem : (x, d) ∈ T.consts := by
      have : ∀ l : List (PySem.Str × D), l.lookup x = some d → (x, d) ∈ l := fun l => by
        induction l with
        | nil => intro h; cases h
        | cons q l ih =>
          intro h
          obtain ⟨y, e⟩ := q
          rw [List.lookup_cons] at h
          cases z : x == y with
          | true => rw [z] at h; cases h; have := beq_iff_eq.mp z; subst this; exact List.mem_cons_self
          | false => rw [z] at h; exact List.mem_cons_of_mem _ (ih h)
      exact this _ e
    have h2 := List.all_eq_true.mp h1 (x, d) hmem
    simp only at h2
    split at h2
    · rename_i u e1
      obtain ⟨v, q1, q2⟩ := statB_ok (g := ⟨K, mg, T.fns, T.excs, w⟩) hm d u h2
      exact ⟨u, v, hm x u e1, q1, q2⟩
    · cases h2
  · obtain ⟨fd, F⟩ := cd.defs (d := d.d) (List.mem_map.mpr ⟨d, hd, rfl⟩)
    have hx : d.x ∈ T.fns := by rw [hf]; exact List.mem_map.mpr ⟨d, hd, rfl⟩
    have e := He.glo_ok X G (cd.facts (f := .glo d.x) (List.mem_append_left _ (List.mem_map.mpr ⟨d.x, hx, rfl⟩)))
    exact ⟨_, fd, e, F⟩

/-- the end: a law over its script -/
theorem law_sp {g : G} {P : List Fk.Fn} {n f : Nat} {H : Hp} {a : Addr} {ns : List Int} (hl : ns.length ≤ 63) (hS : SqL g.K H a (ns.map V.int)) (hO : ∀ b, ¬ Live ⟨[], []⟩ b) (h : ∃ s, callF P n f [.scr ns] [] = .ok (.bl true) s) :
    spOf g 1 (callF P n f) [.ref a] H (fun v _ => v = .bl true) (fun _ _ _ => False) := by
  obtain ⟨s, h⟩ := h
  refine ⟨rfl, [.scr ns], [], ⟨[], []⟩, ⟨rfl, fun i e => by simp at e, fun i ds e => by simp at e, fun i ks vs e => by simp at e, fun i j a e => by simp at e, fun a e => (by cases e), fun i a e => (by simp at e)⟩, ?_, ?_⟩
  · unfold RepL
    refine ⟨.ref a, [], rfl, ?_, by simp [RepL]⟩
    unfold RepV
    refine ⟨a, rfl, ?_, Nat.le_trans hl (by rw [← sl_eq]; decide)⟩
    rcases hS with h | h
    · exact .inr ⟨hO a, h⟩
    · exact .inl h
  · rw [h]
    intro b H' φ' _ _ hb
    exact repv_bl hb
theorem noLive (b : Addr) : ¬ Live ⟨[], []⟩ b := by
  rintro (⟨j, hj⟩ | l)
  · simp at hj
  · cases l
/-- THE END of a law: what is told behind the top, and the plain law -/
theorem law_end {l : PySem.W.OpenLaw} {q : Program} {loose : List PySem.Str} {XP : (PySem.Str → Option Value) → Heap → Prop} {YP : World → Heap → Prop} {dr : DefRec} (T : Tab) (ds : List FD) (f n : Nat) (d : FD)
    (hn : l.most = some 63) (hdf : dr.params.defaults = []) (hr : Room (n + 1) callerA) (hY : ∀ w h, YP w h → ∃ K : PySem.W.Frag, K.In h ∧ He.SaysX (faOf T) (ds.map FD.d) (tsOf T) [] (exOf T) w h K)
    (hq : ds[f]? = some d) (hx : d.x = dr.name) (hps : d.N.take d.fn.np = [("script" : PySem.Str)]) (hfns : T.fns = ds.map (·.x)) (hok : (ds.all fun d => d.ok T) = true)
    (main : ∀ ns : List Int, ns.length ≤ 63 → ∃ s, callF (ds.map (·.fn)) (n + 1) f [.scr ns] [] = .ok (.bl true) s) :
    PySem.W.WalkO q loose XP YP l.row.toRowW dr [] (fun g us => PySem.call g us) := by
  refine Att.attach_call hn hdf ?_
  intro w s₀ s₁ mg mb fa o pm cd doc a vs ns G Y ho hd hcd hmg hobj hints hlen hg
  obtain ⟨K, KX, c⟩ := hY _ _ Y
  have hF := facts_of KX G.T.g hfns hok c
  have cd' : He.SaysD (faOf T) (ds.map FD.d) K := c.t.d
  have hmem := List.mem_of_getElem? hq
  obtain ⟨fa', fd, h1, F⟩ := hF.def_ d hmem
  have e : fa' = fa := by
    have h3 : mg d.x = some (.ref fa) := by rw [hx]; exact hmg
    have h4 := h1.symm.trans h3
    cases h4; rfl
  subst e
  have hokd := hF.ok d hmem
  unfold FD.ok at hokd
  simp only [Bool.and_eq_true, decide_eq_true_eq] at hokd
  have hp1 := hokd.1.1.2
  rw [hps] at hp1
  have hb : ∀ (s : Shared) (u : Value), BindsTo s fd ⟨[u], []⟩ [("script", u)] := fun s u =>
    FunD.bindsA (ps := ["script"]) F (fun kV doc pm an cdv ct us l => bind_plain hp1 l) s [u] rfl
  refine law_call (CX := L2.CX l.prog w) (k := n + 1) (sp := spOf ⟨K, mg, T.fns, T.excs, w⟩ 1 (callF (ds.map (·.fn)) (n + 1) f)) KX G.T.g G.T.b G.T.builtins G.T.nolimit hg hobj hints (Nat.le_trans hlen (by rw [← sl_eq]; decide)) hr ?_ hb ?_ ?_
  · intro base _ _
    have h := fn_next (P := l.prog) (w := w) (base := base) hF rfl (calls hF rfl n) hq F
    rw [hps] at h
    exact h
  · exact fun H _ hS => law_sp hlen hS noLive (main ns hlen)
  · rintro H e s' ⟨_, _, _, _, _, _, _, _, _, _, _, _, z⟩
    exact z
end L3

set_option Elab.async false
set_option linter.all false
set_option autoImplicit false
set_option maxRecDepth 100000
set_option maxHeartbeats 4000000
/-! FkLaw: how a plain law is shown: what a form computes meets a wish. Core Lean alone. -/
namespace Fk

def WP {α : Type} (r : R α) (Q : α → St → Prop) : Prop :=
  match r with
  | .ok a s => Q a s
  | _ => False
def WS (r : RS) (N : Env → St → Prop) (T : D → St → Prop) : Prop :=
  match r with
  | .ok (.nx e) s => N e s
  | .ok (.rt d) s => T d s
  | _ => False
section
variable {α β : Type} {Q : α → St → Prop} {N N' : Env → St → Prop} {T T' : D → St → Prop}
theorem WP_ok (a : α) (s : St) : WP (.ok a s) Q = Q a s := rfl
theorem WP_bad : WP (.bad : R α) Q = False := rfl
theorem WP_bind (m : R β) (f : β → St → R α) : WP (m.bind f) Q = WP m fun b s => WP (f b s) Q := by cases m <;> rfl
theorem WP_noErr (m : R α) : WP m.noErr Q = WP m Q := by cases m <;> rfl
theorem WP_ite (c : Prop) [Decidable c] (a b : R α) : WP (if c then a else b) Q = if c then WP a Q else WP b Q := by split <;> rfl
theorem WP.mono {r : R α} {Q' : α → St → Prop} (h : WP r Q) (k : ∀ a s, Q a s → Q' a s) : WP r Q' := by
  cases r with
  | ok a s => exact k a s h
  | err _ _ => exact h
  | bad => exact h
theorem WP.ex {r : R α} (h : WP r Q) : ∃ a s, r = .ok a s ∧ Q a s := by
  cases r with
  | ok a s => exact ⟨a, s, rfl, h⟩
  | err _ _ => exact h.elim
  | bad => exact h.elim
theorem WS_nx (e : Env) (s : St) : WS (.ok (.nx e) s) N T = N e s := rfl
theorem WS_rt (d : D) (s : St) : WS (.ok (.rt d) s) N T = T d s := rfl
theorem WS_bad : WS .bad N T = False := rfl
theorem WS_toS (m : R α) (env : Env) (f : α → St → RS) : WS (m.toS env f) N T = WP m fun a s => WS (f a s) N T := by cases m <;> rfl
theorem WS_seq (r : RS) (f : Env → St → RS) : WS (r.seq f) N T = WS r (fun e s => WS (f e s) N T) T := by
  cases r with
  | ok fl s => cases fl <;> rfl
  | err _ _ _ => rfl
  | bad => rfl
theorem WS_ite (c : Prop) [Decidable c] (a b : RS) : WS (if c then a else b) N T = if c then WS a N T else WS b N T := by split <;> rfl
theorem WS.mono {r : RS} (h : WS r N T) (k : ∀ e s, N e s → N' e s) (l : ∀ d s, T d s → T' d s) : WS r N' T' := by
  cases r with
  | ok fl s =>
    cases fl with
    | nx e => exact k e s h
    | rt d => exact l d s h
    | bk _ => exact h
    | ct _ => exact h
  | err _ _ _ => exact h
  | bad => exact h
theorem WP_asB (b : Bool) (s : St) (f : Bool → St → R α) : asB (.bl b) s f = f b s := rfl
theorem WS_asB (b : Bool) (s : St) (f : Bool → St → RS) : asBS (.bl b) s f = f b s := rfl
theorem WP_back {Q : D → St → Prop} (s : St) (r : RS) : WP (back s r) Q = WS r (fun _ s' => Q .none (s'.take s.length)) fun d s' => Q d (s'.take (max s.length d.top)) := by
  cases r with
  | ok fl s => cases fl <;> rfl
  | err _ _ _ => rfl
  | bad => rfl
theorem callF_eq {P : List Fn} {n f : Nat} {args : List D} {s : St} {fn : Fn} (h : P[f]? = some fn) (l : args.length = fn.np) : callF P (n + 1) f args s = back s (exB (callF P n) fn.body (start fn args) s) := by
  simp only [callF, h]
  rw [if_pos l]
theorem exB_nil (cf : CF) (env : Env) (s : St) : exB cf [] env s = .ok (.nx env) s := by simp only [exB]
theorem exB_cons (cf : CF) (t : IS) (ts : List IS) (env : Env) (s : St) : exB cf (t :: ts) env s = (exS cf t env s).seq fun env s => exB cf ts env s := by simp only [exB]
/-- a comprehension, turn by turn -/
theorem wp_lc {f : D → St → R (Option D)} {items acc : List D} {s : St} {Q : D → St → Prop} (I : Nat → List D → St → Prop) (h0 : I 0 acc s)
    (step : ∀ i d acc s, items[i]? = some d → I i acc s → WP (f d s) fun o s' => I (i + 1) (match o with | some y => acc ++ [y] | Option.none => acc) s')
    (fin : ∀ acc s, I items.length acc s → Q (.lst acc) s) : WP (lcR f items acc s) Q := by
  have key : ∀ (k : Nat) (acc : List D) (s : St), k ≤ items.length → I k acc s → WP (lcR f (items.drop k) acc s) Q := by
    intro k
    induction h : items.length - k generalizing k with
    | zero =>
      intro acc s hk hi
      have : k = items.length := by omega
      subst this
      rw [List.drop_length]
      exact fin acc s hi
    | succ m ih =>
      intro acc s hk hi
      have hlt : k < items.length := by omega
      rw [List.drop_eq_getElem_cons hlt]
      unfold lcR
      rw [WP_bind]
      refine (step k _ acc s (List.getElem?_eq_getElem hlt) hi).mono fun o s' h' => ?_
      cases o with
      | some y => exact ih (k + 1) (by omega) _ _ hlt h'
      | none => exact ih (k + 1) (by omega) _ _ hlt h'
  have := key 0 acc s (Nat.zero_le _) h0
  rw [List.drop_zero] at this
  exact this
theorem lc_pure {f : D → St → R (Option D)} {g : D → Option D} {s : St} : ∀ {items acc : List D}, (∀ d ∈ items, f d s = .ok (g d) s) → lcR f items acc s = .ok (.lst (acc ++ items.filterMap g)) s
  | [], acc, _ => by simp [lcR]
  | d :: ds, acc, h => by
    unfold lcR
    rw [h d List.mem_cons_self, R.bind_ok]
    cases q : g d with
    | some y =>
      simp only
      rw [lc_pure fun d hd => h d (List.mem_cons_of_mem _ hd)]
      simp [q]
    | none =>
      simp only
      rw [lc_pure fun d hd => h d (List.mem_cons_of_mem _ hd)]
      simp [q]
/-- a loop, turn by turn -/
theorem ws_for {p : Pat} {body : Env → St → RS} {items : List D} {env : Env} {s : St} (I : Nat → Env → St → Prop) (h0 : I 0 env s)
    (step : ∀ i d env s, items[i]? = some d → I i env s → ∃ env1, bindP p d env = some env1 ∧ WS (body env1 s) (fun e s' => I (i + 1) e s') T)
    (fin : ∀ env s, I items.length env s → N env s) : WS (forR p body items env s) N T := by
  have key : ∀ (k : Nat) (env : Env) (s : St), k ≤ items.length → I k env s → WS (forR p body (items.drop k) env s) N T := by
    intro k
    induction h : items.length - k generalizing k with
    | zero =>
      intro env s hk hi
      have : k = items.length := by omega
      subst this
      rw [List.drop_length]
      exact fin env s hi
    | succ m ih =>
      intro env s hk hi
      have hlt : k < items.length := by omega
      rw [List.drop_eq_getElem_cons hlt]
      obtain ⟨env1, e1, h1⟩ := step k _ env s (List.getElem?_eq_getElem hlt) hi
      unfold forR
      rw [e1]
      simp only
      revert h1
      cases body env1 s with
      | ok fl s' =>
        cases fl with
        | nx e => exact fun h1 => ih (k + 1) (by omega) _ _ hlt h1
        | rt d => exact fun h1 => h1
        | bk e => exact fun h1 => h1.elim
        | ct e => exact fun h1 => h1.elim
      | err _ _ _ => exact fun h1 => h1.elim
      | bad => exact fun h1 => h1.elim
  have := key 0 env s (Nat.zero_le _) h0
  rw [List.drop_zero] at this
  exact this
end
/-- an item of a list, the place being drawn -/
theorem atI_mem {α : Type} {xs : List α} {i : Int} (h0 : 0 ≤ i) (h1 : i < xs.length) : ∃ x ∈ xs, atI xs i = some x := by
  have hl : i.toNat < xs.length := by omega
  refine ⟨xs[i.toNat], List.getElem_mem hl, ?_⟩
  unfold atI ixN
  rw [if_pos h0, if_pos h1]
  show xs[i.toNat]? = _
  exact List.getElem?_eq_getElem hl
theorem wp_at {xs : List D} {i : Int} {s : St} {Q : D → St → Prop} (h0 : 0 ≤ i) (h1 : i < xs.length) (h : ∀ d ∈ xs, Q d s) : WP (subD (.lst xs) (.int i) s) Q := by
  obtain ⟨x, hx, e⟩ := atI_mem h0 h1
  simp only [subD, rd, e]
  exact h x hx

/-! ### the draws of the laws: a list of three numbers in the store -/
def potO (a b c : Int) : O := .lst [.int a, .int b, .int c]
/-- c: above what was drawn so far -/
def Pot (s : St) (r : Nat) (c : Nat) : Prop := ∃ p0 p1 p2 : Int, s[r]? = some (potO p0 p1 p2) ∧ 0 ≤ p0 ∧ 0 ≤ p1 ∧ p1 < 2 ^ 61 ∧ 0 ≤ p2 ∧ p2 ≤ c
theorem Pot.mono {s : St} {r c c' : Nat} (h : Pot s r c) (l : c ≤ c') : Pot s r c' := by
  obtain ⟨p0, p1, p2, e, h0, h2, h3, h4, h5⟩ := h
  exact ⟨p0, p1, p2, e, h0, h2, h3, h4, by omega⟩
theorem Pot.lt {s : St} {r c : Nat} (h : Pot s r c) : r < s.length := by
  obtain ⟨_, _, _, e, _⟩ := h
  exact (List.getElem?_eq_some_iff.mp e).1
/-- from s on, nothing but the pot at r changed; k more were drawn, at most -/
def Drew (s : St) (r c k : Nat) (s' : St) : Prop := (∃ o, s' = s.set r o) ∧ Pot s' r (c + k)
theorem Drew.trans {s s1 s2 : St} {r c k k' : Nat} (a : Drew s r c k s1) (b : Drew s1 r (c + k) k' s2) : Drew s r c (k + k') s2 := by
  obtain ⟨⟨o, rfl⟩, p⟩ := a
  obtain ⟨⟨o', rfl⟩, q⟩ := b
  exact ⟨⟨o', by rw [List.set_set]⟩, by rw [← Nat.add_assoc]; exact q⟩
theorem Drew.mono {s s1 : St} {r c k k' : Nat} (a : Drew s r c k s1) (l : k ≤ k') : Drew s r c k' s1 := ⟨a.1, a.2.mono (by omega)⟩
theorem Drew.refl {s : St} {r c : Nat} (h : Pot s r c) : Drew s r c 0 s := by
  obtain ⟨p0, p1, p2, e, hh⟩ := h
  refine ⟨⟨potO p0 p1 p2, ?_⟩, p0, p1, p2, e, hh⟩
  refine List.ext_getElem? fun j => ?_
  by_cases hj : r = j
  · subst hj
    rw [List.getElem?_set_self (List.getElem?_eq_some_iff.mp e).1, e]
  · rw [List.getElem?_set_ne hj]
theorem Drew.length {s s' : St} {r c k : Nat} (a : Drew s r c k s') : s'.length = s.length := by
  obtain ⟨⟨o, rfl⟩, _⟩ := a
  simp
/-! ### what a form means, told once -/
theorem den_nop {cf : CF} {env : Env} {s : St}  : den cf (.nop) env s = .ok .none s := by simp only [den] <;> rfl
theorem den_c {cf : CF} {env : Env} {s : St} {d : D} : den cf (.c d) env s = .ok d s := by simp only [den] <;> rfl
theorem den_v {cf : CF} {env : Env} {s : St} {i : Nat} : den cf (.v i) env s = match env[i]? with
    | some (some d) => .ok d s
    | _ => .bad := by simp only [den] <;> rfl
theorem den_bin {cf : CF} {env : Env} {s : St} {o : Op} {t : Bool} {a b : IE} : den cf (.bin o t a b) env s = (den cf a env s).bind fun x s => (den cf b env s).bind fun y s => binD o t x y s := by simp only [den] <;> rfl
theorem den_neg {cf : CF} {env : Env} {s : St} {a : IE} : den cf (.neg a) env s = (den cf a env s).bind fun x s => match x with
    | .int i => .ok (.int (-i)) s
    | _ => .bad := by simp only [den] <;> rfl
theorem den_cmp {cf : CF} {env : Env} {s : St} {o : Cmp} {a b : IE} : den cf (.cmp o a b) env s = (den cf a env s).bind fun x s => (den cf b env s).bind fun y s => cmpD o x y s := by simp only [den] <;> rfl
theorem den_chain {cf : CF} {env : Env} {s : St} {o1 o2 : Cmp} {a b c : IE} : den cf (.chain o1 o2 a b c) env s = (den cf a env s).bind fun x s => (den cf b env s).bind fun y s => (cmpD o1 x y s).bind fun k s => asB k s fun k s =>
      if k then (den cf c env s).bind fun z s => cmpD o2 y z s else .ok (.bl false) s := by simp only [den] <;> rfl
theorem den_and {cf : CF} {env : Env} {s : St} {a b : IE} : den cf (.and a b) env s = (den cf a env s).bind fun x s => asB x s fun k s => if k then den cf b env s else .ok (.bl false) s := by simp only [den] <;> rfl
theorem den_or {cf : CF} {env : Env} {s : St} {a b : IE} : den cf (.or a b) env s = (den cf a env s).bind fun x s => asB x s fun k s => if k then .ok (.bl true) s else den cf b env s := by simp only [den] <;> rfl
theorem den_not {cf : CF} {env : Env} {s : St} {a : IE} : den cf (.not a) env s = (den cf a env s).bind fun x s => asB x s fun k s => .ok (.bl (!k)) s := by simp only [den] <;> rfl
theorem den_ite {cf : CF} {env : Env} {s : St} {c a b : IE} : den cf (.ite c a b) env s = (den cf c env s).bind fun x s => asB x s fun k s => if k then den cf a env s else den cf b env s := by simp only [den] <;> rfl
theorem den_tup {cf : CF} {env : Env} {s : St} {es : List IE} : den cf (.tup es) env s = (denL cf es env s).bind fun xs s => .ok (.tup xs) s := by simp only [den] <;> rfl
theorem den_lst {cf : CF} {env : Env} {s : St} {t : Bool} {es : List IE} : den cf (.lst t es) env s = (denL cf es env s).bind fun xs s => fin t xs s := by simp only [den] <;> rfl
theorem den_dic {cf : CF} {env : Env} {s : St} {es : List IE} : den cf (.dic es) env s = (denL cf es env s).bind fun xs s => match pairsOf xs with
    | some (ks, vs) => if ks.all keyOk then .ok (.dic ks vs) s else .bad
    | Option.none => .bad := by simp only [den] <;> rfl
theorem den_sub {cf : CF} {env : Env} {s : St} {a i : IE} : den cf (.sub a i) env s = (den cf a env s).bind fun x s => (den cf i env s).bind fun y s => subD x y s := by simp only [den] <;> rfl
theorem den_sl {cf : CF} {env : Env} {s : St} {t : Bool} {a lo hi : IE} : den cf (.sl t a lo hi) env s = (den cf a env s).bind fun x s => ((den cf lo env s).bind fun l s => partR (isNop lo) l s).bind fun l s => ((den cf hi env s).bind fun h s => partR (isNop hi) h s).bind fun h s => slD t x l h s := by simp only [den] <;> rfl
theorem den_call {cf : CF} {env : Env} {s : St} {f : Nat} {es : List IE} : den cf (.call f es) env s = (denL cf es env s).bind fun xs s => cf f xs s := by simp only [den] <;> rfl
theorem den_blt {cf : CF} {env : Env} {s : St} {b : Blt} {t : Bool} {es : List IE} : den cf (.blt b t es) env s = (denL cf es env s).bind fun xs s => bltD b t xs s := by simp only [den] <;> rfl
theorem den_meth {cf : CF} {env : Env} {s : St} {m : Mth} {o : IE} {es : List IE} : den cf (.meth m o es) env s = (den cf o env s).bind fun x s => if recvOk m x s then (denL cf es env s).bind fun xs s => methD m x xs s else .bad := by simp only [den] <;> rfl
theorem den_lc {cf : CF} {env : Env} {s : St} {elt : IE} {p : Pat} {k : ItK} {its : List IE} {cond : IE} : den cf (.lc elt p k its cond) env s = (denL cf its env s).bind fun ws s => match itK k ws with
    | Option.none => .bad
    | some items => lcR (fun d s => match bindP p d (wipe env p.slots) with
        | Option.none => .bad
        | some env1 => (den cf cond env1 s).noErr.bind fun c s => asB c s fun k s => if k then (den cf elt env1 s).noErr.bind fun y s => .ok (some y) s else .ok Option.none s) items [] s := by simp only [den] <;> rfl
theorem den_rev {cf : CF} {env : Env} {s : St} {a : IE} : den cf (.rev a) env s = (den cf a env s).bind fun x s => revD x s := by simp only [den] <;> rfl
theorem den_callv {cf : CF} {env : Env} {s : St} {i : Nat} {es : List IE} : den cf (.callv i es) env s = match env[i]? with
    | some (some (.fn f)) => (denL cf es env s).bind fun xs s => cf f xs s
    | _ => .bad := by simp only [den] <;> rfl
theorem exS_raise {cf : CF} {env : Env} {s : St} {c : Nat} : exS cf (.raise c) env s = .err ⟨c, Option.none⟩ env s := by simp only [exS]
theorem exS_tryR {cf : CF} {env : Env} {s : St} {body : List IS} {m : List Nat} {h sl : Nat} {es : List SuE} : exS cf (.tryR body m h sl es) env s = (exB cf body env s).caught m es := by simp only [exS]
theorem exS_expr {cf : CF} {env : Env} {s : St} {e : IE} : exS cf (.expr e) env s = (den cf e env s).toS env fun _ s => .ok (.nx env) s := by simp only [exS] <;> rfl
theorem exS_set {cf : CF} {env : Env} {s : St} {p : Pat} {e : IE} : exS cf (.set p e) env s = (den cf e env s).toS env fun d s => match bindP p d env with
    | some env1 => .ok (.nx env1) s
    | Option.none => .bad := by simp only [exS] <;> rfl
theorem exS_setSub {cf : CF} {env : Env} {s : St} {o i e : IE} : exS cf (.setSub o i e) env s = (den cf e env s).toS env fun x s => (den cf o env s).toS env fun o s => (den cf i env s).toS env fun i s => setAt o i x env s := by simp only [exS] <;> rfl
theorem exS_fz {cf : CF} {env : Env} {s : St} {i : Nat} : exS cf (.fz i) env s = freeze i env s := by simp only [exS] <;> rfl
theorem exS_ife {cf : CF} {env : Env} {s : St} {c : IE} {a b : List IS} : exS cf (.ife c a b) env s = (den cf c env s).toS env fun d s => asBS d s fun k s => if k then exB cf a env s else exB cf b env s := by simp only [exS] <;> rfl
theorem exS_forr {cf : CF} {env : Env} {s : St} {p : Pat} {k : ItK} {its : List IE} {body : List IS} : exS cf (.forr p k its body) env s = (denL cf its env s).toS env fun ws s => match itK k ws with
    | Option.none => .bad
    | some items => forR p (fun env s => exB cf body env s) items env s := by simp only [exS] <;> rfl
theorem exS_ret {cf : CF} {env : Env} {s : St} {e : IE} : exS cf (.ret e) env s = (den cf e env s).toS env fun d s => .ok (.rt d) s := by simp only [exS] <;> rfl
theorem exS_pass {cf : CF} {env : Env} {s : St}  : exS cf (.pass) env s = .ok (.nx env) s := by simp only [exS] <;> rfl
theorem denL_nil {cf : CF} {env : Env} {s : St} : denL cf [] env s = .ok [] s := by simp only [denL]
theorem denL_cons {cf : CF} {env : Env} {s : St} {e : IE} {es : List IE} : denL cf (e :: es) env s = (den cf e env s).bind fun x s => (denL cf es env s).bind fun xs s => .ok (x :: xs) s := by simp only [denL]
end Fk

set_option Elab.async false
set_option linter.all false
set_option autoImplicit false
set_option maxRecDepth 100000
set_option maxHeartbeats 4000000
/-! FkDraw: the draws of the laws. -/
namespace Fk
def potFn : Fn := ⟨2, 3, [.set (.s 2) (.c (.int 0)), .ife (.cmp .lt (.v 1) (.blt .len false [.v 0])) [.set (.s 2) (.bin .mod false (.blt .abs false [.sub (.v 0) (.v 1)]) (.bin .pow false (.bin .pow false (.c (.int 10)) (.c (.int 60))) (.c (.int 10))))] [], .ret (.lst true [.bin .mul false (.v 2) (.blt .int_ false [.cmp .ge (.v 2) (.bin .pow false (.c (.int 10)) (.c (.int 18)))]), .bin .mod false (.bin .pow false (.bin .add false (.bin .add false (.bin .mod false (.v 2) (.c (.int 2147483629))) (.bin .mul false (.c (.int 7919)) (.v 1))) (.c (.int 1))) (.c (.int 5))) (.c (.int 2305843009213693951)), .c (.int 0)])]⟩
def takeFn : Fn := ⟨2, 5, [.ife (.cmp .gt (.sub (.v 0) (.c (.int 0))) (.c (.int 0))) [.set (.s 4) (.bin .mod false (.sub (.v 0) (.c (.int 0))) (.v 1)), .setSub (.v 0) (.c (.int 0)) (.bin .fdiv false (.sub (.v 0) (.c (.int 0))) (.v 1)), .ret (.v 4)] [], .setSub (.v 0) (.c (.int 2)) (.bin .add false (.sub (.v 0) (.c (.int 2))) (.c (.int 1))), .set (.s 2) (.bin .mod false (.bin .pow false (.bin .add false (.sub (.v 0) (.c (.int 1))) (.bin .mul false (.c (.int 104729)) (.sub (.v 0) (.c (.int 2))))) (.c (.int 3))) (.c (.int 2305843009213693921))), .set (.s 3) (.bin .mod false (.bin .pow false (.bin .add false (.bin .add false (.v 2) (.bin .mod false (.sub (.v 0) (.c (.int 1))) (.c (.int 65537)))) (.bin .mul false (.c (.int 31)) (.sub (.v 0) (.c (.int 2))))) (.c (.int 5))) (.c (.int 2305843009213693907))), .ret (.bin .mod false (.bin .fdiv false (.v 3) (.c (.int 1024))) (.v 1))]⟩
theorem log2_le {n k : Nat} (h : n < 2 ^ (k + 1)) : n.log2 ≤ k := by
  by_cases h0 : n = 0
  · subst h0; simp
  · exact Nat.lt_succ_iff.mp ((Nat.log2_lt h0).mpr h)
theorem ilog2_le {i : Int} {k : Nat} (h0 : 0 ≤ i) (h : i < 2 ^ (k + 1)) : i.natAbs.log2 ≤ k := by
  refine log2_le ?_
  have e : ((2 : Int) ^ (k + 1)) = ((2 ^ (k + 1) : Nat) : Int) := by norm_cast
  rw [e] at h
  omega
theorem set_get {s : St} {r : Nat} {o : O} (h : r < s.length) : (s.set r o)[r]? = some o := List.getElem?_set_self h
theorem take_set {s : St} {r : Nat} {o : O} : (s.set r o).take (max s.length 0) = s.set r o := by
  rw [Nat.max_zero, List.take_of_length_le (by simp)]
theorem pow_bound : (101 * 5 : Nat) ≤ 2 ^ 27 := by decide
theorem wp_take {P : List Fn} {n f r c : Nat} {many : Int} {s : St} {Q : D → St → Prop} (hP : P[f]? = some takeFn) (hp : Pot s r c) (hc : c ≤ 2 ^ 40) (hm : 0 < many) (lm : many.natAbs.log2 < 9000)
    (h : ∀ x s', 0 ≤ x → x < many → Drew s r c 1 s' → Q (.int x) s') : WP (callF P (n + 1) f [.ref r, .int many] s) Q := by
  have hl := hp.lt
  obtain ⟨p0, p1, p2, e, h0, h2, h3, h4, h5⟩ := hp
  unfold potO at e
  rw [callF_eq hP rfl, WP_back]
  have hrd : rd s (.ref r) = .lst [.int p0, .int p1, .int p2] := by simp -implicitDefEqProofs only [rd, e]
  have g0 : subD (.ref r) (.int 0) s = .ok (.int p0) s := by simp [subD, hrd, atI, ixN]
  show WS (exB (callF P n) takeFn.body [some (.ref r), some (.int many), none, none, none] s) _ _
  simp -implicitDefEqProofs only [takeFn, exB_cons, exB_nil, exS_set, exS_setSub, exS_ife, exS_ret, den_c, den_v, den_bin, den_neg, den_cmp, den_sub, den_call, den_blt, den_lst, denL_nil, denL_cons, WS_seq, WS_toS, WP_bind, WP_ok, List.getElem?_cons_zero, List.getElem?_cons_succ, g0]
  have c0 : cmpD .gt (.int p0) (.int 0) s = .ok (.bl (decide (0 < p0))) s := rfl
  simp -implicitDefEqProofs only [c0, WP_ok, WS_asB]
  by_cases hq : 0 < p0
  · simp -implicitDefEqProofs only [hq, decide_true, if_true]
    have b1 : binD .mod false (.int p0) (.int many) s = .ok (.int (p0 % many)) s := by simp [binD, rd, hm]
    have b2 : binD .fdiv false (.int p0) (.int many) s = .ok (.int (p0 / many)) s := by simp -implicitDefEqProofs only [binD, rd]; rw [if_pos ⟨hm, lm⟩]
    have st : ∀ env, setAt (.ref r) (.int 0) (.int (p0 / many)) env s = .ok (.nx env) (s.set r (potO (p0 / many) p1 p2)) := fun env => by
      simp [setAt, e, ixN, D.pure, potO]
    simp -implicitDefEqProofs only [b1, b2, st, WP_ok, bindP, WS_nx, WS_rt, WS_seq, WS_toS, WP_bind, exS_set, exS_setSub, exS_ife, exS_ret, exB_cons, exB_nil, den_c, den_v, den_bin, den_neg, den_cmp, den_sub, den_call, den_blt, den_lst, denL_nil, denL_cons, List.set_cons_zero, List.set_cons_succ, List.getElem?_cons_zero, List.getElem?_cons_succ, g0, D.top, take_set]
    refine h _ _ (Int.emod_nonneg _ (by omega)) (Int.emod_lt_of_pos _ hm) ⟨⟨_, rfl⟩, p0 / many, p1, p2, set_get hl, Int.ediv_nonneg h0 (by omega), h2, h3, h4, by omega⟩
  · simp -implicitDefEqProofs only [hq, decide_false, Bool.false_eq_true, if_false, WS_nx]
    have hp0 : p0 = 0 := by omega
    have g2 : subD (.ref r) (.int 2) s = .ok (.int p2) s := by simp [subD, hrd, atI, ixN]
    have b1 : binD .add false (.int p2) (.int 1) s = .ok (.int (p2 + 1)) s := rfl
    have st : ∀ env, setAt (.ref r) (.int 2) (.int (p2 + 1)) env s = .ok (.nx env) (s.set r (potO p0 p1 (p2 + 1))) := fun env => by
      simp [setAt, e, ixN, D.pure, potO]
    generalize hs2 : s.set r (potO p0 p1 (p2 + 1)) = s2 at st
    have e2 : s2[r]? = some (.lst [.int p0, .int p1, .int (p2 + 1)]) := by rw [← hs2]; exact set_get hl
    have hrd2 : rd s2 (.ref r) = .lst [.int p0, .int p1, .int (p2 + 1)] := by simp -implicitDefEqProofs only [rd, e2]
    have k1 : subD (.ref r) (.int 1) s2 = .ok (.int p1) s2 := by simp [subD, hrd2, atI, ixN]
    have k2 : subD (.ref r) (.int 2) s2 = .ok (.int (p2 + 1)) s2 := by simp [subD, hrd2, atI, ixN]
    have z40 : (2 : Int) ^ 40 = 1099511627776 := by decide
    have z61 : (2 : Int) ^ 61 = 2305843009213693952 := by decide
    have hc' : (c : Int) ≤ 2 ^ 40 := by
      have : ((2 ^ 40 : Nat) : Int) = 2 ^ 40 := by norm_cast
      rw [← this]; exact_mod_cast hc
    have l2 : (p2 + 1).natAbs.log2 ≤ 60 := ilog2_le (k := 60) (by omega) (by rw [z61]; omega)
    have ml : ∀ a : Int, a.natAbs.log2 ≤ 60 → binD .mul false (.int a) (.int (p2 + 1)) s2 = .ok (.int (a * (p2 + 1))) s2 := fun a ha => by
      simp -implicitDefEqProofs only [binD, rd]; rw [if_pos (by omega)]
    have ad : ∀ a b : Int, binD .add false (.int a) (.int b) s2 = .ok (.int (a + b)) s2 := fun a b => rfl
    have pw : ∀ (a : Int) (b : Int), 0 ≤ a → a < 2 ^ 101 → 0 ≤ b → b ≤ 5 → binD .pow false (.int a) (.int b) s2 = .ok (.int (a ^ b.toNat)) s2 := fun a b ha hb h0 h5 => by
      have := ilog2_le (k := 100) ha hb
      simp -implicitDefEqProofs only [binD, rd]
      rw [if_pos]
      refine ⟨h0, ?_⟩
      have h1 : (a.natAbs.log2 + 1) ≤ 101 := by omega
      have h2 : b.toNat ≤ 5 := by omega
      calc (a.natAbs.log2 + 1) * b.toNat ≤ 101 * 5 := Nat.mul_le_mul h1 h2
        _ ≤ 2 ^ 27 := pow_bound
    have md : ∀ a b : Int, 0 < b → binD .mod false (.int a) (.int b) s2 = .ok (.int (a % b)) s2 := fun a b hb => by simp -implicitDefEqProofs only [binD, rd]; rw [if_pos hb]
    have fd : ∀ a : Int, binD .fdiv false (.int a) (.int 1024) s2 = .ok (.int (a / 1024)) s2 := fun a => by
      simp -implicitDefEqProofs only [binD, rd]; rw [if_pos ⟨by decide, by decide +kernel⟩]
    have z101 : (2 : Int) ^ 101 = 2535301200456458802993406410752 := by decide
    simp -implicitDefEqProofs only [b1, st, WP_ok, bindP, WS_nx, WS_rt, WS_seq, WS_toS, WP_bind, exS_set, exS_setSub, exS_ife, exS_ret, exB_cons, exB_nil, den_c, den_v, den_bin, den_neg, den_cmp, den_sub, den_call, den_blt, den_lst, denL_nil, denL_cons, List.set_cons_zero, List.set_cons_succ, List.getElem?_cons_zero, List.getElem?_cons_succ, g0, g2, k1, k2, D.top]
    rw [ml _ (by decide +kernel), WP_ok, ad, WP_ok, pw _ _ (by omega) (by rw [z101]; omega) (by decide) (by decide), WP_ok, md _ _ (by decide), WP_ok]
    generalize ho : (p1 + 104729 * (p2 + 1)) ^ Int.toNat 3 % 2305843009213693921 = one
    have o1 : 0 ≤ one := by rw [← ho]; exact Int.emod_nonneg _ (by decide)
    have o2 : one < 2305843009213693921 := by rw [← ho]; exact Int.emod_lt_of_pos _ (by decide)
    simp -implicitDefEqProofs only [WS_nx, WS_toS, WP_bind, exS_set, exS_setSub, exS_ife, exS_ret, den_c, den_v, den_bin, den_neg, den_cmp, den_sub, den_call, den_blt, den_lst, denL_nil, denL_cons, WP_ok, List.getElem?_cons_zero, List.getElem?_cons_succ, List.set_cons_zero, List.set_cons_succ, k1, k2]
    rw [md _ _ (by decide)]
    have q1 : 0 ≤ p1 % 65537 := Int.emod_nonneg _ (by decide)
    have q2 : p1 % 65537 < 65537 := Int.emod_lt_of_pos _ (by decide)
    simp -implicitDefEqProofs only [WP_ok, ad, k2]
    rw [ml _ (by decide +kernel)]
    simp -implicitDefEqProofs only [WP_ok, ad]
    rw [pw _ _ (by omega) (by rw [z101]; omega) (by decide) (by decide)]
    simp -implicitDefEqProofs only [WP_ok]
    rw [md _ _ (by decide)]
    simp -implicitDefEqProofs only [WP_ok, bindP, WS_nx, WS_rt, WS_seq, WS_toS, WP_bind, exS_set, exS_setSub, exS_ife, exS_ret, den_c, den_v, den_bin, den_neg, den_cmp, den_sub, den_call, den_blt, den_lst, denL_nil, denL_cons, List.set_cons_zero, List.set_cons_succ, List.getElem?_cons_zero, List.getElem?_cons_succ, fd]
    rw [md _ _ hm, WP_ok]
    have hs3 : s2.take (max s.length 0) = s2 := by rw [← hs2]; exact take_set
    show Q _ (s2.take (max s.length 0))
    rw [hs3]
    refine h _ _ (Int.emod_nonneg _ (by omega)) (Int.emod_lt_of_pos _ hm) ⟨⟨_, hs2.symm⟩, p0, p1, p2 + 1, by rw [e2]; rfl, h0, h2, h3, by omega, by push_cast; omega⟩
/-! ### a cell's pot -/
abbrev big : Int := ((10 : Int) ^ Int.toNat 60) ^ Int.toNat 10
theorem big_pos : 0 < big := by decide +kernel
theorem big_le : big.natAbs ≤ 2 ^ 2001 := by decide +kernel
theorem cell_ok (x : Int) : 0 ≤ x % big ∧ (x % big).natAbs.log2 ≤ 2000 := by
  have h0 : 0 ≤ x % big := Int.emod_nonneg _ (Int.ne_of_gt big_pos)
  refine ⟨h0, log2_le ?_⟩
  have h1 : x % big < big := Int.emod_lt_of_pos _ big_pos
  have h2 := big_le
  generalize big = b at *
  generalize (2 : Nat) ^ (2000 + 1) = c at *
  omega
theorem wp_pot {P : List Fn} {n f : Nat} {k : Int} {ns : List Int} {s : St} {Q : D → St → Prop} (hP : P[f]? = some potFn) (hk : 0 ≤ k) (hk2 : k ≤ 1000000)
    (h : ∀ p, Pot (s ++ [p]) s.length 0 → Q (.ref s.length) (s ++ [p])) : WP (callF P (n + 1) f [.scr ns, .int k] s) Q := by
  rw [callF_eq hP rfl, WP_back]
  show WS (exB (callF P n) potFn.body [some (.scr ns), some (.int k), none] s) _ _
  have pw : ∀ a b : Int, 0 ≤ b → (a.natAbs.log2 + 1) * b.toNat ≤ 2 ^ 27 → binD .pow false (.int a) (.int b) s = .ok (.int (a ^ b.toNat)) s := fun a b h0 h1 => by
    simp -implicitDefEqProofs only [binD, rd]; rw [if_pos ⟨h0, h1⟩]
  have md : ∀ a b : Int, 0 < b → binD .mod false (.int a) (.int b) s = .ok (.int (a % b)) s := fun a b hb => by simp -implicitDefEqProofs only [binD, rd]; rw [if_pos hb]
  have ml : ∀ a b : Int, a.natAbs.log2 + b.natAbs.log2 < 1000000 → binD .mul false (.int a) (.int b) s = .ok (.int (a * b)) s := fun a b hb => by simp -implicitDefEqProofs only [binD, rd]; rw [if_pos hb]
  have ad : ∀ a b : Int, binD .add false (.int a) (.int b) s = .ok (.int (a + b)) s := fun a b => rfl
  have ln : bltD .len false [.scr ns] s = .ok (.int ns.length) s := rfl
  have ab : ∀ i : Int, bltD .abs false [.int i] s = .ok (.int (if i < 0 then -i else i)) s := fun _ => rfl
  have ge : ∀ a b : Int, cmpD .ge (.int a) (.int b) s = .ok (.bl (decide (b ≤ a))) s := fun _ _ => rfl
  have lt : ∀ a b : Int, cmpD .lt (.int a) (.int b) s = .ok (.bl (decide (a < b))) s := fun _ _ => rfl
  have bi : ∀ b : Bool, bltD .int_ false [.bl b] s = .ok (.int (if b then 1 else 0)) s := fun _ => rfl
  -- what follows, the cell being known
  have rest : ∀ cell : Int, 0 ≤ cell → cell.natAbs.log2 ≤ 2000 → WS (exS (callF P n) (.ret (.lst true [.bin .mul false (.v 2) (.blt .int_ false [.cmp .ge (.v 2) (.bin .pow false (.c (.int 10)) (.c (.int 18)))]), .bin .mod false (.bin .pow false (.bin .add false (.bin .add false (.bin .mod false (.v 2) (.c (.int 2147483629))) (.bin .mul false (.c (.int 7919)) (.v 1))) (.c (.int 1))) (.c (.int 5))) (.c (.int 2305843009213693951)), .c (.int 0)])) [some (.scr ns), some (.int k), some (.int cell)] s) (fun _ s' => Q .none (s'.take s.length)) (fun d s' => Q d (s'.take (max s.length d.top))) := by
    intro cell c0 c1
    simp -implicitDefEqProofs only [exB_cons, exB_nil, exS_ret, den_lst, den_bin, den_blt, den_cmp, den_v, den_c, denL_nil, denL_cons, WS_seq, WS_toS, WP_bind, WP_ok, List.getElem?_cons_zero, List.getElem?_cons_succ]
    rw [pw _ _ (by decide) (by decide +kernel)]
    simp -implicitDefEqProofs only [WP_ok, ge, bi]
    generalize hb : (if decide ((10 : Int) ^ Int.toNat 18 ≤ cell) = true then (1 : Int) else 0) = b
    have b0 : 0 ≤ b ∧ b.natAbs.log2 ≤ 0 := by rw [← hb]; split <;> decide
    rw [ml _ _ (by omega), WP_ok, md _ _ (by decide), WP_ok]
    have kl := ilog2_le (k := 100) hk (Int.lt_of_le_of_lt hk2 (by decide +kernel))
    rw [ml _ _ (by have : (7919 : Int).natAbs.log2 ≤ 12 := by decide +kernel
                   omega)]
    simp -implicitDefEqProofs only [WP_ok, ad]
    have m0 : 0 ≤ cell % 2147483629 := Int.emod_nonneg _ (by decide)
    have m1 : cell % 2147483629 < 2147483629 := Int.emod_lt_of_pos _ (by decide)
    rw [pw _ _ (by decide) (by
      have := ilog2_le (i := cell % 2147483629 + 7919 * k + 1) (k := 100) (by omega) (Int.lt_of_lt_of_le (b := 10000000000000) (by omega) (by decide +kernel))
      have h5 : Int.toNat 5 = 5 := rfl
      rw [h5]
      omega), WP_ok, md _ _ (by decide), WP_ok]
    generalize hp : (cell % 2147483629 + 7919 * k + 1) ^ Int.toNat 5 % 2305843009213693951 = p1
    have q0 : 0 ≤ p1 := by rw [← hp]; exact Int.emod_nonneg _ (by decide)
    have q1 : p1 < 2305843009213693951 := by rw [← hp]; exact Int.emod_lt_of_pos _ (by decide)
    have al : fin true [.int (cell * b), .int p1, .int 0] s = .ok (.ref s.length) (s ++ [potO (cell * b) p1 0]) := rfl
    simp -implicitDefEqProofs only [al, WP_ok, WS_rt]
    have tk : (s ++ [potO (cell * b) p1 0]).take (max s.length (D.ref s.length).top) = s ++ [potO (cell * b) p1 0] := by
      have : (D.ref s.length).top = s.length + 1 := rfl
      rw [this, List.take_of_length_le]
      simp
    rw [tk]
    refine h _ ⟨cell * b, p1, 0, by simp, Int.mul_nonneg c0 b0.1, q0, ?_, Int.le_refl _, by decide⟩
    have : (2 : Int) ^ 61 = 2305843009213693952 := by decide
    omega
  simp -implicitDefEqProofs only [potFn]
  rw [exB_cons]
  simp -implicitDefEqProofs only [exS_set, den_c, WS_seq, WS_toS, WP_ok, bindP, WS_nx, List.set_cons_zero, List.set_cons_succ]
  rw [exB_cons]
  simp -implicitDefEqProofs only [exS_set, exS_ife, den_c, den_cmp, den_v, den_blt, denL_cons, denL_nil, WS_seq, WS_toS, WP_bind, WP_ok, bindP, WS_nx, List.set_cons_zero, List.set_cons_succ, List.getElem?_cons_zero, List.getElem?_cons_succ, ln, lt, WS_asB]
  by_cases hq : k < ns.length
  · simp -implicitDefEqProofs only [hq, decide_true, if_true]
    have at_ : subD (.scr ns) (.int k) s = .ok (.int (ns[k.toNat]'(by omega))) s := by
      simp only [subD, rd, atI, ixN, if_pos hk, if_pos hq, Option.bind_some]
      rw [List.getElem?_eq_getElem (by omega)]
    simp -implicitDefEqProofs only [exB_cons, exB_nil, exS_set, den_c, den_bin, den_sub, den_v, den_blt, denL_cons, denL_nil, WS_seq, WS_toS, WP_bind, WP_ok, bindP, WS_nx, List.set_cons_zero, List.set_cons_succ, List.getElem?_cons_zero, List.getElem?_cons_succ, at_, ab]
    rw [pw _ _ (by decide) (by decide +kernel), WP_ok, pw _ _ (by decide) (by decide +kernel), WP_ok, md _ _ big_pos, WP_ok]
    obtain ⟨c0, c1⟩ := cell_ok (if (ns[k.toNat]'(by omega)) < 0 then -(ns[k.toNat]'(by omega)) else (ns[k.toNat]'(by omega)))
    exact rest _ c0 c1
  · simp -implicitDefEqProofs only [hq, decide_false, Bool.false_eq_true, if_false, exB_nil, WS_nx]
    rw [exB_cons]
    simp -implicitDefEqProofs only [WS_seq, exB_nil, WS_nx]
    exact rest 0 (by decide) (by decide)
end Fk

set_option Elab.async false
set_option linter.all false
set_option autoImplicit false
set_option maxRecDepth 100000
set_option maxHeartbeats 4000000
/-! FkLib: operations at known values. -/
namespace Fk
/-- a value by itself, its kind known -/
def kk : D → Bool
  | .ref _ => false | .fn _ => false | .ty _ => false | .set _ => false | .scr _ => false | .tab _ _ => false
  | _ => true
theorem rd_kk {d : D} {s : St} (h : kk d = true) : rd s d = d := by cases d <;> first | rfl | (cases h; done)
section
variable {s : St} {t : Bool} {a b : Int} {Q : D → St → Prop}
theorem o_add : binD .add t (.int a) (.int b) s = .ok (.int (a + b)) s := rfl
theorem o_sub : binD .sub t (.int a) (.int b) s = .ok (.int (a - b)) s := rfl
theorem o_mul (h : a.natAbs.log2 + b.natAbs.log2 < 1000000) : binD .mul t (.int a) (.int b) s = .ok (.int (a * b)) s := by simp only [binD, rd]; rw [if_pos h]
theorem o_mod (h : 0 < b) : binD .mod t (.int a) (.int b) s = .ok (.int (a % b)) s := by simp only [binD, rd]; rw [if_pos h]
theorem o_cat {x y : List Nat} (h : x.length + y.length ≤ sizeLine) : binD .add t (.str x) (.str y) s = .ok (.str (x ++ y)) s := by simp only [binD, rd]; rw [if_pos h]
theorem o_app {x y : List D} (h : x.length + y.length ≤ sizeLine) : binD .add false (.lst x) (.lst y) s = .ok (.lst (x ++ y)) s := by simp only [binD, rd, fin]; rw [if_pos h]; rfl
theorem o_lt : cmpD .lt (.int a) (.int b) s = .ok (.bl (decide (a < b))) s := rfl
theorem o_le : cmpD .le (.int a) (.int b) s = .ok (.bl (decide (a ≤ b))) s := rfl
theorem o_gt : cmpD .gt (.int a) (.int b) s = .ok (.bl (decide (b < a))) s := rfl
theorem o_ge : cmpD .ge (.int a) (.int b) s = .ok (.bl (decide (b ≤ a))) s := rfl
theorem o_eqi : cmpD .eq (.int a) (.int b) s = .ok (.bl (a == b)) s := rfl
theorem o_nei : cmpD .ne (.int a) (.int b) s = .ok (.bl (!(a == b))) s := rfl
theorem o_eqs {x y : List Nat} : cmpD .eq (.str x) (.str y) s = .ok (.bl (x == y)) s := rfl
theorem o_nes {x y : List Nat} : cmpD .ne (.str x) (.str y) s = .ok (.bl (!(x == y))) s := rfl
theorem o_in {c : Nat} {y : List Nat} : cmpD .isin (.str [c]) (.str y) s = .ok (.bl (y.contains c)) s := rfl
theorem o_notin {c : Nat} {y : List Nat} : cmpD .notin (.str [c]) (.str y) s = .ok (.bl (!y.contains c)) s := rfl
theorem o_isin {k : Nat} {d : D} (h : kk d = true) : bltD (.isinst k) t [d, .ty k] s = .ok (.bl (isT s k d)) s := by
  have : kindKnown s d = true := by unfold kindKnown; rw [rd_kk h]; cases d <;> first | rfl | (cases h; done)
  show (if k = k ∧ kindKnown s d = true then R.ok (D.bl (isT s k d)) s else .bad) = _
  rw [if_pos ⟨rfl, this⟩]
theorem isT_kk {k : Nat} {d : D} (h : kk d = true) : isT s k d = isT [] k d := by unfold isT; rw [rd_kk h, rd_kk h]
theorem o_lens {z : List Nat} (h : z.length ≤ sizeLine) : bltD .len t [.str z] s = .ok (.int z.length) s := by simp only [bltD, rd]; rw [if_pos h]
theorem o_lent {z : List D} : bltD .len t [.tup z] s = .ok (.int z.length) s := rfl
theorem o_lenl {z : List D} : bltD .len t [.lst z] s = .ok (.int z.length) s := rfl
theorem o_lenc {z : List Int} : bltD .len t [.scr z] s = .ok (.int z.length) s := rfl
theorem o_abs : bltD .abs t [.int a] s = .ok (.int (if a < 0 then -a else a)) s := rfl
theorem o_min : bltD .min2 t [.int a, .int b] s = .ok (.int (if b < a then b else a)) s := rfl
theorem o_max : bltD .max2 t [.int a, .int b] s = .ok (.int (if b > a then b else a)) s := rfl
theorem o_tupl {z : List D} : bltD .tuple_ t [.lst z] s = .ok (.tup z) s := rfl
theorem o_tupt {z : List D} : bltD .tuple_ t [.tup z] s = .ok (.tup z) s := rfl
theorem mapB_bl : ∀ bs : List Bool, mapB (bs.map D.bl) = some bs
  | [] => rfl
  | b :: bs => by
    have := mapB_bl bs
    unfold mapB at this ⊢
    simp [this]
theorem o_all {bs : List Bool} : bltD .all t [.lst (bs.map D.bl)] s = .ok (.bl (bs.all id)) s := by simp only [bltD, rd, mapB_bl]
theorem o_any {bs : List Bool} : bltD .any t [.lst (bs.map D.bl)] s = .ok (.bl (bs.any id)) s := by simp only [bltD, rd, mapB_bl]
theorem strsOf_str : ∀ zs : List (List Nat), strsOf (zs.map D.str) = some zs
  | [] => rfl
  | z :: zs => by
    have := strsOf_str zs
    unfold strsOf at this ⊢
    simp [this]
theorem fin_f {z : List D} : fin false z s = .ok (.lst z) s := rfl
theorem o_subt {z : List D} {i : Int} {d : D} (h : atI z i = some d) : subD (.tup z) (.int i) s = .ok d s := by simp only [subD, rd, h]
theorem o_subs {z : List Nat} {i : Int} (hz : z.length ≤ sizeLine) (h0 : 0 ≤ i) (h1 : i < z.length) : ∃ c, c ∈ z ∧ subD (.str z) (.int i) s = .ok (.str [c]) s := by
  obtain ⟨c, hc, e⟩ := atI_mem h0 h1
  exact ⟨c, hc, by simp only [subD, rd, if_pos hz, e]⟩
theorem o_sls {z : List Nat} {l h : Option Int} (hz : z.length ≤ sizeLine) : slD t (.str z) l h s = .ok (.str (cut z l h)) s := by simp only [slD, rd, if_pos hz]
theorem o_sll {z : List D} {l h : Option Int} : slD false (.lst z) l h s = .ok (.lst (cut z l h)) s := rfl
theorem cut_len {α : Type} (z : List α) (l h : Option Int) : (cut z l h).length ≤ z.length := by unfold cut; rw [List.length_take, List.length_drop]; omega
end
theorem lc_map {β : Type} {f : D → St → R (Option D)} {k : β → D} {g : β → Option D} {s : St} : ∀ {bs : List β} {acc : List D}, (∀ b ∈ bs, f (k b) s = .ok (g b) s) → lcR f (bs.map k) acc s = .ok (.lst (acc ++ bs.filterMap g)) s
  | [], acc, _ => by simp [lcR]
  | b :: bs, acc, h => by
    rw [List.map_cons]
    unfold lcR
    rw [h b List.mem_cons_self, R.bind_ok]
    cases q : g b with
    | some y =>
      simp only
      rw [lc_map fun d hd => h d (List.mem_cons_of_mem _ hd)]
      simp [q]
    | none =>
      simp only
      rw [lc_map fun d hd => h d (List.mem_cons_of_mem _ hd)]
      simp [q]
def chD (c : Nat) : D := .str [c]
theorem it_str {z : List Nat} (h : z.length ≤ sizeLine) : itK .val [.str z] = some (z.map chD) := by
  show (if z.length ≤ sizeLine then some (z.map chD) else Option.none) = _
  rw [if_pos h]
theorem it_lst {z : List D} : itK .val [.lst z] = some z := rfl
theorem it_tup {z : List D} : itK .val [.tup z] = some z := rfl
theorem it_rng {n : Int} (h0 : -far ≤ n) (h1 : n ≤ sizeLine) : itK .range1 [.int n] = some ((List.range n.toNat).map fun i : Nat => D.int i) := by
  show (if -far ≤ n ∧ n ≤ sizeLine then some ((List.range n.toNat).map fun i : Nat => D.int i) else Option.none) = _
  rw [if_pos ⟨h0, h1⟩]
theorem flatL_ch : ∀ zs : List Nat, flatL (zs.map chD) = true
  | [] => rfl
  | z :: zs => by rw [List.map_cons]; unfold flatL; rw [flatL_ch zs]; rfl
theorem depthL_ch : ∀ zs : List Nat, depthL (zs.map chD) = 0
  | [] => rfl
  | z :: zs => by rw [List.map_cons]; unfold depthL; rw [depthL_ch zs]; rfl
theorem o_chnil {zs : List Nat} {s : St} : cmpD .eq (.lst (zs.map chD)) (.lst []) s = .ok (.bl zs.isEmpty) s := by
  have f1 : flat (.lst (zs.map chD)) = true := by unfold flat; exact flatL_ch zs
  have f2 : depth (.lst (zs.map chD)) = 1 := by unfold depth; rw [depthL_ch]
  have f3 : flat (.lst []) = true := rfl
  have f4 : depth (.lst []) = 1 := rfl
  show (if flat (.lst (zs.map chD)) && flat (.lst []) && decide (depth (.lst (zs.map chD)) ≤ 60) && decide (depth (.lst []) ≤ 60) then R.ok (D.bl (eqv (.lst (zs.map chD)) (.lst []))) s else if lenNe (.lst (zs.map chD)) (.lst []) then R.ok (D.bl false) s else .bad) = _
  rw [f1, f2, f3, f4]
  cases zs <;> rfl
theorem fm_some {α β : Type} {f : α → β} : ∀ zs : List α, zs.filterMap (fun c => some (f c)) = zs.map f
  | [] => rfl
  | z :: zs => by simp [fm_some zs]
theorem fm_if {α β : Type} {f : α → β} {p : α → Bool} : ∀ zs : List α, zs.filterMap (fun c => if p c then some (f c) else Option.none) = (zs.filter p).map f
  | [] => rfl
  | z :: zs => by
    have := fm_if (f := f) (p := p) zs
    cases h : p z <;> simp [h, this]
theorem joinT_len (a : List Nat) : ∀ zs : List (List Nat), (joinT a zs).length ≤ lenSum a.length zs
  | [] => by simp [joinT]
  | [x] => by simp [joinT, lenSum]
  | x :: y :: r => by
    have := joinT_len a (y :: r)
    simp only [joinT, lenSum, List.length_append] at this ⊢
    omega
theorem lenSum_one : ∀ zs : List (List Nat), (∀ z ∈ zs, z.length = 1) → lenSum 0 zs = zs.length
  | [], _ => rfl
  | z :: zs, h => by
    have := lenSum_one zs fun y hy => h y (List.mem_cons_of_mem _ hy)
    have h1 := h z List.mem_cons_self
    simp only [lenSum, List.length_cons]
    omega
theorem o_join {a : List Nat} {zs : List (List Nat)} {s : St} (h : lenSum a.length zs ≤ 16777216) : methD .join (.str a) [.lst (zs.map D.str)] s = .ok (.str (joinT a zs)) s := by
  simp only [methD, rd, strsOf_str]
  rw [if_pos h]
theorem Drew.to {s s1 s2 : St} {r c c' k k' m : Nat} (a : Drew s r c k s1) (b : Drew s1 r c' k' s2) (l : c' + k' ≤ c + m) : Drew s r c m s2 := by
  obtain ⟨⟨o, rfl⟩, _⟩ := a
  obtain ⟨⟨o', rfl⟩, q⟩ := b
  exact ⟨⟨o', by rw [List.set_set]⟩, q.mono l⟩
theorem Drew.take {s s' : St} {r c k m : Nat} (a : Drew s r c k s') : s'.take (max s.length m) = s' := List.take_of_length_le (by rw [a.length]; exact Nat.le_max_left ..)
theorem Drew.take0 {s s' : St} {r c k : Nat} (a : Drew s r c k s') : s'.take s.length = s' := List.take_of_length_le (by rw [a.length]; exact Nat.le_refl _)
theorem Drew.pot {s s' : St} {r c k : Nat} (a : Drew s r c k s') : Pot s' r (c + k) := a.2
theorem Pot.snoc {s : St} {r c : Nat} {o : O} (h : Pot s r c) : Pot (s ++ [o]) r c := by
  obtain ⟨p0, p1, p2, e, hh⟩ := h
  exact ⟨p0, p1, p2, by rw [List.getElem?_append_left (List.getElem?_eq_some_iff.mp e).1]; exact e, hh⟩
/-- an object laid behind stays behind -/
theorem Drew.snoc {s s' : St} {r c k : Nat} {o : O} (hr : r < s.length) (a : Drew (s ++ [o]) r c k s') : ∃ t, s' = t ++ [o] ∧ Drew s r c k t := by
  obtain ⟨⟨p, rfl⟩, p0, p1, p2, e, hh⟩ := a
  refine ⟨s.set r p, by rw [List.set_append_left _ _ hr], ⟨p, rfl⟩, p0, p1, p2, ?_, hh⟩
  rw [List.getElem?_set_self (by simp; omega)] at e
  rw [List.getElem?_set_self hr]; exact e
theorem snoc_get {t : St} {o : O} : (t ++ [o])[t.length]? = some o := by simp
theorem snoc_set {t : St} {o p : O} : (t ++ [o]).set t.length p = t ++ [p] := by simp
theorem snoc_take {t : St} {o : O} {n : Nat} (h : n = t.length) : (t ++ [o]).take n = t := by rw [h]; simp
/-- an object laid behind, let go -/
theorem Drew.cut {s s' : St} {r c k : Nat} {o : O} (hr : r < s.length) (a : Drew (s ++ [o]) r c k s') : Drew s r c k (s'.take s.length) := by
  obtain ⟨⟨p, rfl⟩, p0, p1, p2, e, hh⟩ := a
  have e2 : ((s ++ [o]).set r p).take s.length = s.set r p := by
    rw [List.set_append_left _ _ hr, List.take_append_of_le_length (by simp), List.take_of_length_le (by simp)]
  rw [e2]
  refine ⟨⟨p, rfl⟩, p0, p1, p2, ?_, hh⟩
  rw [List.getElem?_set_self (by simp; omega)] at e
  rw [List.getElem?_set_self hr]; exact e
theorem take_set_out {s : St} {i : Nat} {y : O} (s' : St) (h : s.length ≤ i) : (s'.set i y).take s.length = s'.take s.length := by
  rw [List.take_set]
  exact List.set_eq_of_length_le (by rw [List.length_take]; omega)
theorem eq_of_wp {α : Type} {r : R α} {v : α} {s : St} (h : WP r fun a s' => a = v ∧ s' = s) : r = .ok v s := by
  obtain ⟨a, s', e, rfl, rfl⟩ := h.ex
  exact e
theorem wp_of_eq {α : Type} {r : R α} {v : α} {s : St} {Q : α → St → Prop} (h : r = .ok v s) (q : Q v s) : WP r Q := by rw [h]; exact q
end Fk

set_option Elab.async false
set_option linter.all false
set_option autoImplicit false
set_option maxRecDepth 100000
set_option maxHeartbeats 4000000
/-! FkNames: the looks at names, of any law. -/
namespace Fk
def isWholeFn : Fn := ⟨1, 1, [.ret (.and (.blt (.isinst 0) false [.v 0, .c (.ty 0)]) (.not (.blt (.isinst 1) false [.v 0, .c (.ty 1)])))]⟩
def isBelowFn (w : Nat) : Fn := ⟨2, 2, [.ret (.and (.call w [.v 0]) (.chain .le .lt (.c (.int 0)) (.v 0) (.v 1)))]⟩
def isRowFn : Fn := ⟨2, 2, [.ret (.and (.blt (.isinst 3) false [.v 0, .c (.ty 3)]) (.cmp .eq (.blt .len false [.v 0]) (.v 1)))]⟩
def isWordFn : Fn := ⟨1, 2, [.ife (.or (.not (.blt (.isinst 2) false [.v 0, .c (.ty 2)])) (.not (.chain .le .le (.c (.int 1)) (.blt .len false [.v 0]) (.c (.int 8))))) [.ret (.c (.bl false))] [], .ret (.blt .all false [.lc (.cmp .isin (.v 1) (.c (.str [97, 98, 99, 100, 101, 102, 103, 104, 105, 106, 107, 108, 109, 110, 111, 112, 113, 114, 115, 116, 117, 118, 119, 120, 121, 122]))) (.s 1) .val [.v 0] (.c (.bl true))])]⟩
def isNameFn (w : Nat) : Fn := ⟨1, 1, [.ret (.and (.call w [.v 0]) (.cmp .ne (.v 0) (.c (.str [107, 101, 121]))))]⟩
def isValueFn (w x : Nat) : Fn := ⟨1, 1, [.ret (.or (.call w [.v 0]) (.and (.call x [.v 0]) (.chain .le .le (.neg (.c (.int 1000000000))) (.v 0) (.c (.int 1000000000)))))]⟩
def isHandFn (b : Nat) : Fn := ⟨1, 1, [.ret (.call b [.v 0, .c (.int 8)])]⟩
def isCountFn (b : Nat) : Fn := ⟨1, 1, [.ret (.call b [.v 0, .bin .add false (.c (.int 1000000)) (.c (.int 1))])]⟩
def isIdFn (r h m c : Nat) : Fn := ⟨1, 1, [.ret (.and (.call r [.v 0, .c (.int 3)]) (.and (.call h [.sub (.v 0) (.c (.int 0))]) (.and (.call m [.sub (.v 0) (.c (.int 1))]) (.call c [.sub (.v 0) (.c (.int 2))]))))]⟩
def lawWordFn : Fn := ⟨1, 2, [.ife (.or (.not (.blt (.isinst 2) false [.v 0, .c (.ty 2)])) (.not (.chain .lt .lt (.c (.int 0)) (.blt .len false [.v 0]) (.c (.int 9))))) [.ret (.c (.bl false))] [], .ret (.cmp .eq (.lc (.v 1) (.s 1) .val [.v 0] (.cmp .notin (.v 1) (.c (.str [97, 98, 99, 100, 101, 102, 103, 104, 105, 106, 107, 108, 109, 110, 111, 112, 113, 114, 115, 116, 117, 118, 119, 120, 121, 122])))) (.lst false []))]⟩
/-- a number that is no truth -/
def isW : D → Bool
  | .int _ => true
  | _ => false
theorem isT0 (s : St) {d : D} (h : kk d = true) : isT s 0 d = (isW d || isT [] 1 d) := by
  rw [isT_kk h]; cases d <;> first | rfl | (cases h; done)
theorem isW_bl {d : D} (h : kk d = true) : (isT [] 0 d && !isT [] 1 d) = isW d := by cases d <;> first | rfl | (cases h; done)
theorem e_whole {P : List Fn} {f : Nat} (hf : P[f]? = some isWholeFn) (n : Nat) {d : D} (s : St) (h : kk d = true) : callF P (n + 1) f [d] s = .ok (.bl (isW d)) s := by
  refine eq_of_wp ?_
  rw [callF_eq (fn := isWholeFn) hf rfl, WP_back]
  show WS (exB _ isWholeFn.body [some d] s) _ _
  simp -implicitDefEqProofs only [exB_cons, exB_nil, exS_expr, exS_set, exS_setSub, exS_fz, exS_ife, exS_ret, exS_pass, den_nop, den_c, den_v, den_bin, den_neg, den_cmp, den_chain, den_and, den_or, den_not, den_ite, den_tup, den_lst, den_sub, den_rev, den_callv, exS_raise, exS_tryR, den_sl, den_call, den_blt, den_meth, denL_nil, denL_cons, WS_seq, WS_toS, WS_nx, WS_rt, WS_asB, WS_ite, WP_bind, WP_ok, WP_asB, WP_ite, bindP, setAll, List.set_cons_zero, List.set_cons_succ, List.getElem?_cons_zero, List.getElem?_cons_succ, decide_true, decide_false, if_true, if_false, Bool.false_eq_true, Bool.not_true, Bool.not_false, isNop, partR, o_add, o_sub, o_lt, o_le, o_gt, o_ge, o_eqi, o_nei, o_eqs, o_nes, o_in, o_notin, o_lent, o_lenl, o_lenc, o_abs, o_min, o_max, o_tupl, o_tupt, o_sll, fin_f, isWholeFn, o_isin h, isT_kk h]
  cases d <;> first | (cases h; done) | simp [isT, rd, isW, D.top]
def below (d : D) (m : Int) : Bool :=
  match d with
  | .int i => decide (0 ≤ i) && decide (i < m)
  | _ => false
theorem e_below {P : List Fn} {f w : Nat} (hf : P[f]? = some (isBelowFn w)) (hw : P[w]? = some isWholeFn) (n : Nat) {d : D} {m : Int} (s : St) (h : kk d = true) : callF P (n + 2) f [d, .int m] s = .ok (.bl (below d m)) s := by
  refine eq_of_wp ?_
  rw [callF_eq (fn := (isBelowFn w)) hf rfl, WP_back]
  show WS (exB _ (isBelowFn w).body [some d, some (.int m)] s) _ _
  simp -implicitDefEqProofs only [exB_cons, exB_nil, exS_expr, exS_set, exS_setSub, exS_fz, exS_ife, exS_ret, exS_pass, den_nop, den_c, den_v, den_bin, den_neg, den_cmp, den_chain, den_and, den_or, den_not, den_ite, den_tup, den_lst, den_sub, den_rev, den_callv, exS_raise, exS_tryR, den_sl, den_call, den_blt, den_meth, denL_nil, denL_cons, WS_seq, WS_toS, WS_nx, WS_rt, WS_asB, WS_ite, WP_bind, WP_ok, WP_asB, WP_ite, bindP, setAll, List.set_cons_zero, List.set_cons_succ, List.getElem?_cons_zero, List.getElem?_cons_succ, decide_true, decide_false, if_true, if_false, Bool.false_eq_true, Bool.not_true, Bool.not_false, isNop, partR, o_add, o_sub, o_lt, o_le, o_gt, o_ge, o_eqi, o_nei, o_eqs, o_nes, o_in, o_notin, o_lent, o_lenl, o_lenc, o_abs, o_min, o_max, o_tupl, o_tupt, o_sll, fin_f, isBelowFn, e_whole hw n s h]
  cases d <;> first | (cases h; done) | skip
  case int i =>
    simp -implicitDefEqProofs only [exB_cons, exB_nil, exS_expr, exS_set, exS_setSub, exS_fz, exS_ife, exS_ret, exS_pass, den_nop, den_c, den_v, den_bin, den_neg, den_cmp, den_chain, den_and, den_or, den_not, den_ite, den_tup, den_lst, den_sub, den_rev, den_callv, exS_raise, exS_tryR, den_sl, den_call, den_blt, den_meth, denL_nil, denL_cons, WS_seq, WS_toS, WS_nx, WS_rt, WS_asB, WS_ite, WP_bind, WP_ok, WP_asB, WP_ite, bindP, setAll, List.set_cons_zero, List.set_cons_succ, List.getElem?_cons_zero, List.getElem?_cons_succ, decide_true, decide_false, if_true, if_false, Bool.false_eq_true, Bool.not_true, Bool.not_false, isNop, partR, o_add, o_sub, o_lt, o_le, o_gt, o_ge, o_eqi, o_nei, o_eqs, o_nes, o_in, o_notin, o_lent, o_lenl, o_lenc, o_abs, o_min, o_max, o_tupl, o_tupt, o_sll, fin_f, isW]
    by_cases c : 0 ≤ i <;> simp [c, below, WP_ok, D.top, o_lt]
  all_goals simp [isW, below, WP_ok, D.top]
def LS : List Nat := [97, 98, 99, 100, 101, 102, 103, 104, 105, 106, 107, 108, 109, 110, 111, 112, 113, 114, 115, 116, 117, 118, 119, 120, 121, 122]
def KEY : List Nat := [107, 101, 121]
def ok1 (d : D) : Bool := kk d && (match d with
  | .str z => decide (z.length ≤ 1000)
  | _ => true)
theorem ok1_kk {d : D} (h : ok1 d = true) : kk d = true := by unfold ok1 at h; simp only [Bool.and_eq_true] at h; exact h.1
theorem ok1_str {z : List Nat} (h : ok1 (.str z) = true) : z.length ≤ sizeLine := by
  unfold ok1 at h
  simp only [Bool.and_eq_true, decide_eq_true_eq] at h
  exact Nat.le_trans h.2 (by decide)
def isWord : D → Bool
  | .str z => (decide (1 ≤ z.length) && decide (z.length ≤ 8)) && z.all fun c => LS.contains c
  | _ => false
theorem word_lc {z : List Nat} : (z.map fun c => LS.contains c).all id = z.all fun c => LS.contains c := by simp [List.all_map, Function.comp_def]
theorem e_word {P : List Fn} {f : Nat} (hf : P[f]? = some isWordFn) (n : Nat) {d : D} (s : St) (h : ok1 d = true) : callF P (n + 1) f [d] s = .ok (.bl (isWord d)) s := by
  refine eq_of_wp ?_
  rw [callF_eq (fn := isWordFn) hf rfl, WP_back]
  show WS (exB _ isWordFn.body [some d, none] s) _ _
  have hk := ok1_kk h
  simp -implicitDefEqProofs only [exB_cons, exB_nil, exS_expr, exS_set, exS_setSub, exS_fz, exS_ife, exS_ret, exS_pass, den_nop, den_c, den_v, den_bin, den_neg, den_cmp, den_chain, den_and, den_or, den_not, den_ite, den_tup, den_lst, den_sub, den_rev, den_callv, exS_raise, exS_tryR, den_sl, den_call, den_blt, den_meth, denL_nil, denL_cons, WS_seq, WS_toS, WS_nx, WS_rt, WS_asB, WS_ite, WP_bind, WP_ok, WP_asB, WP_ite, bindP, setAll, List.set_cons_zero, List.set_cons_succ, List.getElem?_cons_zero, List.getElem?_cons_succ, decide_true, decide_false, if_true, if_false, Bool.false_eq_true, Bool.not_true, Bool.not_false, isNop, partR, o_add, o_sub, o_lt, o_le, o_gt, o_ge, o_eqi, o_nei, o_eqs, o_nes, o_in, o_notin, o_lent, o_lenl, o_lenc, o_abs, o_min, o_max, o_tupl, o_tupt, o_sll, fin_f, isWordFn, o_isin hk, isT_kk hk]
  cases d <;> first | (cases hk; done) | skip
  case str z =>
    have hz := ok1_str h
    have e1 : isT [] 2 (.str z) = true := rfl
    simp -implicitDefEqProofs only [exB_cons, exB_nil, exS_expr, exS_set, exS_setSub, exS_fz, exS_ife, exS_ret, exS_pass, den_nop, den_c, den_v, den_bin, den_neg, den_cmp, den_chain, den_and, den_or, den_not, den_ite, den_tup, den_lst, den_sub, den_rev, den_callv, exS_raise, exS_tryR, den_sl, den_call, den_blt, den_meth, denL_nil, denL_cons, WS_seq, WS_toS, WS_nx, WS_rt, WS_asB, WS_ite, WP_bind, WP_ok, WP_asB, WP_ite, bindP, setAll, List.set_cons_zero, List.set_cons_succ, List.getElem?_cons_zero, List.getElem?_cons_succ, decide_true, decide_false, if_true, if_false, Bool.false_eq_true, Bool.not_true, Bool.not_false, isNop, partR, o_add, o_sub, o_lt, o_le, o_gt, o_ge, o_eqi, o_nei, o_eqs, o_nes, o_in, o_notin, o_lent, o_lenl, o_lenc, o_abs, o_min, o_max, o_tupl, o_tupt, o_sll, fin_f, e1, o_lens hz]
    by_cases c1 : (1 : Int) ≤ z.length
    · simp -implicitDefEqProofs only [exB_cons, exB_nil, exS_expr, exS_set, exS_setSub, exS_fz, exS_ife, exS_ret, exS_pass, den_nop, den_c, den_v, den_bin, den_neg, den_cmp, den_chain, den_and, den_or, den_not, den_ite, den_tup, den_lst, den_sub, den_rev, den_callv, exS_raise, exS_tryR, den_sl, den_call, den_blt, den_meth, denL_nil, denL_cons, WS_seq, WS_toS, WS_nx, WS_rt, WS_asB, WS_ite, WP_bind, WP_ok, WP_asB, WP_ite, bindP, setAll, List.set_cons_zero, List.set_cons_succ, List.getElem?_cons_zero, List.getElem?_cons_succ, decide_true, decide_false, if_true, if_false, Bool.false_eq_true, Bool.not_true, Bool.not_false, isNop, partR, o_add, o_sub, o_lt, o_le, o_gt, o_ge, o_eqi, o_nei, o_eqs, o_nes, o_in, o_notin, o_lent, o_lenl, o_lenc, o_abs, o_min, o_max, o_tupl, o_tupt, o_sll, fin_f, c1]
      by_cases c2 : (z.length : Int) ≤ 8
      · simp -implicitDefEqProofs only [exB_cons, exB_nil, exS_expr, exS_set, exS_setSub, exS_fz, exS_ife, exS_ret, exS_pass, den_nop, den_c, den_v, den_bin, den_neg, den_cmp, den_chain, den_and, den_or, den_not, den_ite, den_tup, den_lst, den_sub, den_rev, den_callv, exS_raise, exS_tryR, den_sl, den_call, den_blt, den_meth, denL_nil, denL_cons, WS_seq, WS_toS, WS_nx, WS_rt, WS_asB, WS_ite, WP_bind, WP_ok, WP_asB, WP_ite, bindP, setAll, List.set_cons_zero, List.set_cons_succ, List.getElem?_cons_zero, List.getElem?_cons_succ, decide_true, decide_false, if_true, if_false, Bool.false_eq_true, Bool.not_true, Bool.not_false, isNop, partR, o_add, o_sub, o_lt, o_le, o_gt, o_ge, o_eqi, o_nei, o_eqs, o_nes, o_in, o_notin, o_lent, o_lenl, o_lenc, o_abs, o_min, o_max, o_tupl, o_tupt, o_sll, fin_f, c2, den_lc, it_str hz]
        refine wp_of_eq (lc_map (g := fun c => some (.bl (LS.contains c))) fun c hc => ?_) ?_
        · refine eq_of_wp ?_
          simp -implicitDefEqProofs only [exB_cons, exB_nil, exS_expr, exS_set, exS_setSub, exS_fz, exS_ife, exS_ret, exS_pass, den_nop, den_c, den_v, den_bin, den_neg, den_cmp, den_chain, den_and, den_or, den_not, den_ite, den_tup, den_lst, den_sub, den_rev, den_callv, exS_raise, exS_tryR, den_sl, den_call, den_blt, den_meth, denL_nil, denL_cons, WS_seq, WS_toS, WS_nx, WS_rt, WS_asB, WS_ite, WP_bind, WP_ok, WP_asB, WP_ite, bindP, setAll, List.set_cons_zero, List.set_cons_succ, List.getElem?_cons_zero, List.getElem?_cons_succ, decide_true, decide_false, if_true, if_false, Bool.false_eq_true, Bool.not_true, Bool.not_false, isNop, partR, o_add, o_sub, o_lt, o_le, o_gt, o_ge, o_eqi, o_nei, o_eqs, o_nes, o_in, o_notin, o_lent, o_lenl, o_lenc, o_abs, o_min, o_max, o_tupl, o_tupt, o_sll, fin_f, chD, Pat.slots, wipe, WP_noErr, LS]
          refine ⟨?_, ?_⟩ <;> first | rfl | trivial
        · have hm : z.map (fun c => D.bl (LS.contains c)) = (z.map fun c => LS.contains c).map D.bl := by rw [List.map_map]; rfl
          rw [fm_some, List.nil_append, hm]
          simp -implicitDefEqProofs only [exB_cons, exB_nil, exS_expr, exS_set, exS_setSub, exS_fz, exS_ife, exS_ret, exS_pass, den_nop, den_c, den_v, den_bin, den_neg, den_cmp, den_chain, den_and, den_or, den_not, den_ite, den_tup, den_lst, den_sub, den_rev, den_callv, exS_raise, exS_tryR, den_sl, den_call, den_blt, den_meth, denL_nil, denL_cons, WS_seq, WS_toS, WS_nx, WS_rt, WS_asB, WS_ite, WP_bind, WP_ok, WP_asB, WP_ite, bindP, setAll, List.set_cons_zero, List.set_cons_succ, List.getElem?_cons_zero, List.getElem?_cons_succ, decide_true, decide_false, if_true, if_false, Bool.false_eq_true, Bool.not_true, Bool.not_false, isNop, partR, o_add, o_sub, o_lt, o_le, o_gt, o_ge, o_eqi, o_nei, o_eqs, o_nes, o_in, o_notin, o_lent, o_lenl, o_lenc, o_abs, o_min, o_max, o_tupl, o_tupt, o_sll, fin_f, o_all, word_lc]
          have a1 : 1 ≤ z.length := by omega
          have a2 : z.length ≤ 8 := by omega
          simp [isWord, a1, a2, D.top]
      · simp -implicitDefEqProofs only [exB_cons, exB_nil, exS_expr, exS_set, exS_setSub, exS_fz, exS_ife, exS_ret, exS_pass, den_nop, den_c, den_v, den_bin, den_neg, den_cmp, den_chain, den_and, den_or, den_not, den_ite, den_tup, den_lst, den_sub, den_rev, den_callv, exS_raise, exS_tryR, den_sl, den_call, den_blt, den_meth, denL_nil, denL_cons, WS_seq, WS_toS, WS_nx, WS_rt, WS_asB, WS_ite, WP_bind, WP_ok, WP_asB, WP_ite, bindP, setAll, List.set_cons_zero, List.set_cons_succ, List.getElem?_cons_zero, List.getElem?_cons_succ, decide_true, decide_false, if_true, if_false, Bool.false_eq_true, Bool.not_true, Bool.not_false, isNop, partR, o_add, o_sub, o_lt, o_le, o_gt, o_ge, o_eqi, o_nei, o_eqs, o_nes, o_in, o_notin, o_lent, o_lenl, o_lenc, o_abs, o_min, o_max, o_tupl, o_tupt, o_sll, fin_f, c2]
        have a2 : ¬ z.length ≤ 8 := by omega
        simp [isWord, a2, D.top]
    · simp -implicitDefEqProofs only [exB_cons, exB_nil, exS_expr, exS_set, exS_setSub, exS_fz, exS_ife, exS_ret, exS_pass, den_nop, den_c, den_v, den_bin, den_neg, den_cmp, den_chain, den_and, den_or, den_not, den_ite, den_tup, den_lst, den_sub, den_rev, den_callv, exS_raise, exS_tryR, den_sl, den_call, den_blt, den_meth, denL_nil, denL_cons, WS_seq, WS_toS, WS_nx, WS_rt, WS_asB, WS_ite, WP_bind, WP_ok, WP_asB, WP_ite, bindP, setAll, List.set_cons_zero, List.set_cons_succ, List.getElem?_cons_zero, List.getElem?_cons_succ, decide_true, decide_false, if_true, if_false, Bool.false_eq_true, Bool.not_true, Bool.not_false, isNop, partR, o_add, o_sub, o_lt, o_le, o_gt, o_ge, o_eqi, o_nei, o_eqs, o_nes, o_in, o_notin, o_lent, o_lenl, o_lenc, o_abs, o_min, o_max, o_tupl, o_tupt, o_sll, fin_f, c1]
      have a1 : ¬ 1 ≤ z.length := by omega
      simp [isWord, a1, D.top]
  all_goals simp [isT, rd, isWord, D.top, WP_ok, WS_rt]
theorem filt_nil {z : List Nat} : (z.filter fun c => !LS.contains c).isEmpty = z.all fun c => LS.contains c := by
  induction z with
  | nil => rfl
  | cons a z ih => cases h : LS.contains a <;> simp [h] at ih ⊢ <;> simp_all
theorem e_lword {P : List Fn} {f : Nat} (hf : P[f]? = some lawWordFn) (n : Nat) {d : D} (s : St) (h : ok1 d = true) : callF P (n + 1) f [d] s = .ok (.bl (isWord d)) s := by
  refine eq_of_wp ?_
  rw [callF_eq (fn := lawWordFn) hf rfl, WP_back]
  show WS (exB _ lawWordFn.body [some d, none] s) _ _
  have hk := ok1_kk h
  simp -implicitDefEqProofs only [exB_cons, exB_nil, exS_expr, exS_set, exS_setSub, exS_fz, exS_ife, exS_ret, exS_pass, den_nop, den_c, den_v, den_bin, den_neg, den_cmp, den_chain, den_and, den_or, den_not, den_ite, den_tup, den_lst, den_sub, den_rev, den_callv, exS_raise, exS_tryR, den_sl, den_call, den_blt, den_meth, denL_nil, denL_cons, WS_seq, WS_toS, WS_nx, WS_rt, WS_asB, WS_ite, WP_bind, WP_ok, WP_asB, WP_ite, bindP, setAll, List.set_cons_zero, List.set_cons_succ, List.getElem?_cons_zero, List.getElem?_cons_succ, decide_true, decide_false, if_true, if_false, Bool.false_eq_true, Bool.not_true, Bool.not_false, isNop, partR, o_add, o_sub, o_lt, o_le, o_gt, o_ge, o_eqi, o_nei, o_eqs, o_nes, o_in, o_notin, o_lent, o_lenl, o_lenc, o_abs, o_min, o_max, o_tupl, o_tupt, o_sll, fin_f, lawWordFn, o_isin hk, isT_kk hk]
  cases d <;> first | (cases hk; done) | skip
  case str z =>
    have hz := ok1_str h
    have e1 : isT [] 2 (.str z) = true := rfl
    simp -implicitDefEqProofs only [exB_cons, exB_nil, exS_expr, exS_set, exS_setSub, exS_fz, exS_ife, exS_ret, exS_pass, den_nop, den_c, den_v, den_bin, den_neg, den_cmp, den_chain, den_and, den_or, den_not, den_ite, den_tup, den_lst, den_sub, den_rev, den_callv, exS_raise, exS_tryR, den_sl, den_call, den_blt, den_meth, denL_nil, denL_cons, WS_seq, WS_toS, WS_nx, WS_rt, WS_asB, WS_ite, WP_bind, WP_ok, WP_asB, WP_ite, bindP, setAll, List.set_cons_zero, List.set_cons_succ, List.getElem?_cons_zero, List.getElem?_cons_succ, decide_true, decide_false, if_true, if_false, Bool.false_eq_true, Bool.not_true, Bool.not_false, isNop, partR, o_add, o_sub, o_lt, o_le, o_gt, o_ge, o_eqi, o_nei, o_eqs, o_nes, o_in, o_notin, o_lent, o_lenl, o_lenc, o_abs, o_min, o_max, o_tupl, o_tupt, o_sll, fin_f, e1, o_lens hz]
    by_cases c1 : (0 : Int) < z.length
    · simp -implicitDefEqProofs only [exB_cons, exB_nil, exS_expr, exS_set, exS_setSub, exS_fz, exS_ife, exS_ret, exS_pass, den_nop, den_c, den_v, den_bin, den_neg, den_cmp, den_chain, den_and, den_or, den_not, den_ite, den_tup, den_lst, den_sub, den_rev, den_callv, exS_raise, exS_tryR, den_sl, den_call, den_blt, den_meth, denL_nil, denL_cons, WS_seq, WS_toS, WS_nx, WS_rt, WS_asB, WS_ite, WP_bind, WP_ok, WP_asB, WP_ite, bindP, setAll, List.set_cons_zero, List.set_cons_succ, List.getElem?_cons_zero, List.getElem?_cons_succ, decide_true, decide_false, if_true, if_false, Bool.false_eq_true, Bool.not_true, Bool.not_false, isNop, partR, o_add, o_sub, o_lt, o_le, o_gt, o_ge, o_eqi, o_nei, o_eqs, o_nes, o_in, o_notin, o_lent, o_lenl, o_lenc, o_abs, o_min, o_max, o_tupl, o_tupt, o_sll, fin_f, c1]
      by_cases c2 : (z.length : Int) < 9
      · simp -implicitDefEqProofs only [exB_cons, exB_nil, exS_expr, exS_set, exS_setSub, exS_fz, exS_ife, exS_ret, exS_pass, den_nop, den_c, den_v, den_bin, den_neg, den_cmp, den_chain, den_and, den_or, den_not, den_ite, den_tup, den_lst, den_sub, den_rev, den_callv, exS_raise, exS_tryR, den_sl, den_call, den_blt, den_meth, denL_nil, denL_cons, WS_seq, WS_toS, WS_nx, WS_rt, WS_asB, WS_ite, WP_bind, WP_ok, WP_asB, WP_ite, bindP, setAll, List.set_cons_zero, List.set_cons_succ, List.getElem?_cons_zero, List.getElem?_cons_succ, decide_true, decide_false, if_true, if_false, Bool.false_eq_true, Bool.not_true, Bool.not_false, isNop, partR, o_add, o_sub, o_lt, o_le, o_gt, o_ge, o_eqi, o_nei, o_eqs, o_nes, o_in, o_notin, o_lent, o_lenl, o_lenc, o_abs, o_min, o_max, o_tupl, o_tupt, o_sll, fin_f, c2, den_lc, it_str hz]
        refine wp_of_eq (lc_map (g := fun c => if !LS.contains c then some (chD c) else Option.none) fun c hc => ?_) ?_
        · refine eq_of_wp ?_
          simp -implicitDefEqProofs only [exB_cons, exB_nil, exS_expr, exS_set, exS_setSub, exS_fz, exS_ife, exS_ret, exS_pass, den_nop, den_c, den_v, den_bin, den_neg, den_cmp, den_chain, den_and, den_or, den_not, den_ite, den_tup, den_lst, den_sub, den_rev, den_callv, exS_raise, exS_tryR, den_sl, den_call, den_blt, den_meth, denL_nil, denL_cons, WS_seq, WS_toS, WS_nx, WS_rt, WS_asB, WS_ite, WP_bind, WP_ok, WP_asB, WP_ite, bindP, setAll, List.set_cons_zero, List.set_cons_succ, List.getElem?_cons_zero, List.getElem?_cons_succ, decide_true, decide_false, if_true, if_false, Bool.false_eq_true, Bool.not_true, Bool.not_false, isNop, partR, o_add, o_sub, o_lt, o_le, o_gt, o_ge, o_eqi, o_nei, o_eqs, o_nes, o_in, o_notin, o_lent, o_lenl, o_lenc, o_abs, o_min, o_max, o_tupl, o_tupt, o_sll, fin_f, chD, Pat.slots, wipe, WP_noErr]
          show if (!LS.contains c) = true then _ else _
          cases hh : LS.contains c <;> simp [hh, WP_ok]
        · rw [fm_if, List.nil_append]
          simp -implicitDefEqProofs only [exB_cons, exB_nil, exS_expr, exS_set, exS_setSub, exS_fz, exS_ife, exS_ret, exS_pass, den_nop, den_c, den_v, den_bin, den_neg, den_cmp, den_chain, den_and, den_or, den_not, den_ite, den_tup, den_lst, den_sub, den_rev, den_callv, exS_raise, exS_tryR, den_sl, den_call, den_blt, den_meth, denL_nil, denL_cons, WS_seq, WS_toS, WS_nx, WS_rt, WS_asB, WS_ite, WP_bind, WP_ok, WP_asB, WP_ite, bindP, setAll, List.set_cons_zero, List.set_cons_succ, List.getElem?_cons_zero, List.getElem?_cons_succ, decide_true, decide_false, if_true, if_false, Bool.false_eq_true, Bool.not_true, Bool.not_false, isNop, partR, o_add, o_sub, o_lt, o_le, o_gt, o_ge, o_eqi, o_nei, o_eqs, o_nes, o_in, o_notin, o_lent, o_lenl, o_lenc, o_abs, o_min, o_max, o_tupl, o_tupt, o_sll, fin_f, o_chnil, filt_nil]
          have a1 : 1 ≤ z.length := by omega
          have a2 : z.length ≤ 8 := by omega
          simp [isWord, a1, a2, D.top]
      · simp -implicitDefEqProofs only [exB_cons, exB_nil, exS_expr, exS_set, exS_setSub, exS_fz, exS_ife, exS_ret, exS_pass, den_nop, den_c, den_v, den_bin, den_neg, den_cmp, den_chain, den_and, den_or, den_not, den_ite, den_tup, den_lst, den_sub, den_rev, den_callv, exS_raise, exS_tryR, den_sl, den_call, den_blt, den_meth, denL_nil, denL_cons, WS_seq, WS_toS, WS_nx, WS_rt, WS_asB, WS_ite, WP_bind, WP_ok, WP_asB, WP_ite, bindP, setAll, List.set_cons_zero, List.set_cons_succ, List.getElem?_cons_zero, List.getElem?_cons_succ, decide_true, decide_false, if_true, if_false, Bool.false_eq_true, Bool.not_true, Bool.not_false, isNop, partR, o_add, o_sub, o_lt, o_le, o_gt, o_ge, o_eqi, o_nei, o_eqs, o_nes, o_in, o_notin, o_lent, o_lenl, o_lenc, o_abs, o_min, o_max, o_tupl, o_tupt, o_sll, fin_f, c2]
        have a2 : ¬ z.length ≤ 8 := by omega
        simp [isWord, a2, D.top]
    · simp -implicitDefEqProofs only [exB_cons, exB_nil, exS_expr, exS_set, exS_setSub, exS_fz, exS_ife, exS_ret, exS_pass, den_nop, den_c, den_v, den_bin, den_neg, den_cmp, den_chain, den_and, den_or, den_not, den_ite, den_tup, den_lst, den_sub, den_rev, den_callv, exS_raise, exS_tryR, den_sl, den_call, den_blt, den_meth, denL_nil, denL_cons, WS_seq, WS_toS, WS_nx, WS_rt, WS_asB, WS_ite, WP_bind, WP_ok, WP_asB, WP_ite, bindP, setAll, List.set_cons_zero, List.set_cons_succ, List.getElem?_cons_zero, List.getElem?_cons_succ, decide_true, decide_false, if_true, if_false, Bool.false_eq_true, Bool.not_true, Bool.not_false, isNop, partR, o_add, o_sub, o_lt, o_le, o_gt, o_ge, o_eqi, o_nei, o_eqs, o_nes, o_in, o_notin, o_lent, o_lenl, o_lenc, o_abs, o_min, o_max, o_tupl, o_tupt, o_sll, fin_f, c1]
      have a1 : ¬ 1 ≤ z.length := by omega
      simp [isWord, a1, D.top]
  all_goals simp [isT, rd, isWord, D.top, WP_ok, WS_rt]
def isName : D → Bool
  | .str z => isWord (.str z) && !(z == KEY)
  | _ => false
theorem e_name {P : List Fn} {f w : Nat} (hf : P[f]? = some (isNameFn w)) (hw : P[w]? = some isWordFn) (n : Nat) {d : D} (s : St) (h : ok1 d = true) : callF P (n + 2) f [d] s = .ok (.bl (isName d)) s := by
  refine eq_of_wp ?_
  rw [callF_eq (fn := (isNameFn w)) hf rfl, WP_back]
  show WS (exB _ (isNameFn w).body [some d] s) _ _
  simp -implicitDefEqProofs only [exB_cons, exB_nil, exS_expr, exS_set, exS_setSub, exS_fz, exS_ife, exS_ret, exS_pass, den_nop, den_c, den_v, den_bin, den_neg, den_cmp, den_chain, den_and, den_or, den_not, den_ite, den_tup, den_lst, den_sub, den_rev, den_callv, exS_raise, exS_tryR, den_sl, den_call, den_blt, den_meth, denL_nil, denL_cons, WS_seq, WS_toS, WS_nx, WS_rt, WS_asB, WS_ite, WP_bind, WP_ok, WP_asB, WP_ite, bindP, setAll, List.set_cons_zero, List.set_cons_succ, List.getElem?_cons_zero, List.getElem?_cons_succ, decide_true, decide_false, if_true, if_false, Bool.false_eq_true, Bool.not_true, Bool.not_false, isNop, partR, o_add, o_sub, o_lt, o_le, o_gt, o_ge, o_eqi, o_nei, o_eqs, o_nes, o_in, o_notin, o_lent, o_lenl, o_lenc, o_abs, o_min, o_max, o_tupl, o_tupt, o_sll, fin_f, isNameFn, e_word hw n s h]
  cases d <;> first | (simp [isWord, isName, WP_ok, D.top]; done) | skip
  all_goals (rename_i z; cases c : isWord (.str z) <;> simp [c, isName, WP_ok, o_nes, D.top, KEY])
def near : D → Bool
  | .int i => decide (-1000000000 ≤ i) && decide (i ≤ 1000000000)
  | _ => false
def isValue (d : D) : Bool := isWord d || near d
theorem e_value {P : List Fn} {f w x : Nat} (hf : P[f]? = some (isValueFn w x)) (hw : P[w]? = some isWordFn) (hx : P[x]? = some isWholeFn) (n : Nat) {d : D} (s : St) (h : ok1 d = true) : callF P (n + 2) f [d] s = .ok (.bl (isValue d)) s := by
  refine eq_of_wp ?_
  rw [callF_eq (fn := (isValueFn w x)) hf rfl, WP_back]
  show WS (exB _ (isValueFn w x).body [some d] s) _ _
  have hk := ok1_kk h
  simp -implicitDefEqProofs only [exB_cons, exB_nil, exS_expr, exS_set, exS_setSub, exS_fz, exS_ife, exS_ret, exS_pass, den_nop, den_c, den_v, den_bin, den_neg, den_cmp, den_chain, den_and, den_or, den_not, den_ite, den_tup, den_lst, den_sub, den_rev, den_callv, exS_raise, exS_tryR, den_sl, den_call, den_blt, den_meth, denL_nil, denL_cons, WS_seq, WS_toS, WS_nx, WS_rt, WS_asB, WS_ite, WP_bind, WP_ok, WP_asB, WP_ite, bindP, setAll, List.set_cons_zero, List.set_cons_succ, List.getElem?_cons_zero, List.getElem?_cons_succ, decide_true, decide_false, if_true, if_false, Bool.false_eq_true, Bool.not_true, Bool.not_false, isNop, partR, o_add, o_sub, o_lt, o_le, o_gt, o_ge, o_eqi, o_nei, o_eqs, o_nes, o_in, o_notin, o_lent, o_lenl, o_lenc, o_abs, o_min, o_max, o_tupl, o_tupt, o_sll, fin_f, isValueFn, e_word hw n s h, e_whole hx n s hk]
  cases d <;> first | (cases hk; done) | (simp [isWord, isValue, near, WP_ok, D.top, isW]; done) | skip
  case int i =>
    simp -implicitDefEqProofs only [exB_cons, exB_nil, exS_expr, exS_set, exS_setSub, exS_fz, exS_ife, exS_ret, exS_pass, den_nop, den_c, den_v, den_bin, den_neg, den_cmp, den_chain, den_and, den_or, den_not, den_ite, den_tup, den_lst, den_sub, den_rev, den_callv, exS_raise, exS_tryR, den_sl, den_call, den_blt, den_meth, denL_nil, denL_cons, WS_seq, WS_toS, WS_nx, WS_rt, WS_asB, WS_ite, WP_bind, WP_ok, WP_asB, WP_ite, bindP, setAll, List.set_cons_zero, List.set_cons_succ, List.getElem?_cons_zero, List.getElem?_cons_succ, decide_true, decide_false, if_true, if_false, Bool.false_eq_true, Bool.not_true, Bool.not_false, isNop, partR, o_add, o_sub, o_lt, o_le, o_gt, o_ge, o_eqi, o_nei, o_eqs, o_nes, o_in, o_notin, o_lent, o_lenl, o_lenc, o_abs, o_min, o_max, o_tupl, o_tupt, o_sll, fin_f, isWord, isW]
    by_cases c : -1000000000 ≤ i <;> simp [c, isWord, isValue, near, WP_ok, D.top, o_le]
  all_goals (rename_i z; cases c : isWord (.str z) <;> simp [c, isValue, near, WP_ok, D.top, isW])
theorem e_hand {P : List Fn} {f w b : Nat} (hf : P[f]? = some (isHandFn b)) (hb : P[b]? = some (isBelowFn w)) (hw : P[w]? = some isWholeFn) (n : Nat) {d : D} (s : St) (h : kk d = true) : callF P (n + 3) f [d] s = .ok (.bl (below d 8)) s := by
  refine eq_of_wp ?_
  rw [callF_eq (fn := (isHandFn b)) hf rfl, WP_back]
  show WS (exB _ (isHandFn b).body [some d] s) _ _
  simp -implicitDefEqProofs only [exB_cons, exB_nil, exS_expr, exS_set, exS_setSub, exS_fz, exS_ife, exS_ret, exS_pass, den_nop, den_c, den_v, den_bin, den_neg, den_cmp, den_chain, den_and, den_or, den_not, den_ite, den_tup, den_lst, den_sub, den_rev, den_callv, exS_raise, exS_tryR, den_sl, den_call, den_blt, den_meth, denL_nil, denL_cons, WS_seq, WS_toS, WS_nx, WS_rt, WS_asB, WS_ite, WP_bind, WP_ok, WP_asB, WP_ite, bindP, setAll, List.set_cons_zero, List.set_cons_succ, List.getElem?_cons_zero, List.getElem?_cons_succ, decide_true, decide_false, if_true, if_false, Bool.false_eq_true, Bool.not_true, Bool.not_false, isNop, partR, o_add, o_sub, o_lt, o_le, o_gt, o_ge, o_eqi, o_nei, o_eqs, o_nes, o_in, o_notin, o_lent, o_lenl, o_lenc, o_abs, o_min, o_max, o_tupl, o_tupt, o_sll, fin_f, isHandFn, e_below hb hw n s h]
  simp [D.top]
theorem e_count {P : List Fn} {f w b : Nat} (hf : P[f]? = some (isCountFn b)) (hb : P[b]? = some (isBelowFn w)) (hw : P[w]? = some isWholeFn) (n : Nat) {d : D} (s : St) (h : kk d = true) : callF P (n + 3) f [d] s = .ok (.bl (below d 1000001)) s := by
  refine eq_of_wp ?_
  rw [callF_eq (fn := (isCountFn b)) hf rfl, WP_back]
  show WS (exB _ (isCountFn b).body [some d] s) _ _
  simp -implicitDefEqProofs only [exB_cons, exB_nil, exS_expr, exS_set, exS_setSub, exS_fz, exS_ife, exS_ret, exS_pass, den_nop, den_c, den_v, den_bin, den_neg, den_cmp, den_chain, den_and, den_or, den_not, den_ite, den_tup, den_lst, den_sub, den_rev, den_callv, exS_raise, exS_tryR, den_sl, den_call, den_blt, den_meth, denL_nil, denL_cons, WS_seq, WS_toS, WS_nx, WS_rt, WS_asB, WS_ite, WP_bind, WP_ok, WP_asB, WP_ite, bindP, setAll, List.set_cons_zero, List.set_cons_succ, List.getElem?_cons_zero, List.getElem?_cons_succ, decide_true, decide_false, if_true, if_false, Bool.false_eq_true, Bool.not_true, Bool.not_false, isNop, partR, o_add, o_sub, o_lt, o_le, o_gt, o_ge, o_eqi, o_nei, o_eqs, o_nes, o_in, o_notin, o_lent, o_lenl, o_lenc, o_abs, o_min, o_max, o_tupl, o_tupt, o_sll, fin_f, isCountFn]
  rw [e_below hb hw n s h]
  simp -implicitDefEqProofs only [exB_cons, exB_nil, exS_expr, exS_set, exS_setSub, exS_fz, exS_ife, exS_ret, exS_pass, den_nop, den_c, den_v, den_bin, den_neg, den_cmp, den_chain, den_and, den_or, den_not, den_ite, den_tup, den_lst, den_sub, den_rev, den_callv, exS_raise, exS_tryR, den_sl, den_call, den_blt, den_meth, denL_nil, denL_cons, WS_seq, WS_toS, WS_nx, WS_rt, WS_asB, WS_ite, WP_bind, WP_ok, WP_asB, WP_ite, bindP, setAll, List.set_cons_zero, List.set_cons_succ, List.getElem?_cons_zero, List.getElem?_cons_succ, decide_true, decide_false, if_true, if_false, Bool.false_eq_true, Bool.not_true, Bool.not_false, isNop, partR, o_add, o_sub, o_lt, o_le, o_gt, o_ge, o_eqi, o_nei, o_eqs, o_nes, o_in, o_notin, o_lent, o_lenl, o_lenc, o_abs, o_min, o_max, o_tupl, o_tupt, o_sll, fin_f]
  simp [D.top]
def row3 : D → Bool
  | .tup ds => decide (ds.length = 3)
  | _ => false
theorem e_row {P : List Fn} {f : Nat} (hf : P[f]? = some isRowFn) (n : Nat) {d : D} (s : St) (h : kk d = true) : callF P (n + 1) f [d, .int 3] s = .ok (.bl (row3 d)) s := by
  refine eq_of_wp ?_
  rw [callF_eq (fn := isRowFn) hf rfl, WP_back]
  show WS (exB _ isRowFn.body [some d, some (.int 3)] s) _ _
  simp -implicitDefEqProofs only [exB_cons, exB_nil, exS_expr, exS_set, exS_setSub, exS_fz, exS_ife, exS_ret, exS_pass, den_nop, den_c, den_v, den_bin, den_neg, den_cmp, den_chain, den_and, den_or, den_not, den_ite, den_tup, den_lst, den_sub, den_rev, den_callv, exS_raise, exS_tryR, den_sl, den_call, den_blt, den_meth, denL_nil, denL_cons, WS_seq, WS_toS, WS_nx, WS_rt, WS_asB, WS_ite, WP_bind, WP_ok, WP_asB, WP_ite, bindP, setAll, List.set_cons_zero, List.set_cons_succ, List.getElem?_cons_zero, List.getElem?_cons_succ, decide_true, decide_false, if_true, if_false, Bool.false_eq_true, Bool.not_true, Bool.not_false, isNop, partR, o_add, o_sub, o_lt, o_le, o_gt, o_ge, o_eqi, o_nei, o_eqs, o_nes, o_in, o_notin, o_lent, o_lenl, o_lenc, o_abs, o_min, o_max, o_tupl, o_tupt, o_sll, fin_f, isRowFn, o_isin h, isT_kk h]
  cases d <;> first | (cases h; done) | skip
  case tup ds =>
    have e1 : isT [] 3 (.tup ds) = true := rfl
    simp -implicitDefEqProofs only [exB_cons, exB_nil, exS_expr, exS_set, exS_setSub, exS_fz, exS_ife, exS_ret, exS_pass, den_nop, den_c, den_v, den_bin, den_neg, den_cmp, den_chain, den_and, den_or, den_not, den_ite, den_tup, den_lst, den_sub, den_rev, den_callv, exS_raise, exS_tryR, den_sl, den_call, den_blt, den_meth, denL_nil, denL_cons, WS_seq, WS_toS, WS_nx, WS_rt, WS_asB, WS_ite, WP_bind, WP_ok, WP_asB, WP_ite, bindP, setAll, List.set_cons_zero, List.set_cons_succ, List.getElem?_cons_zero, List.getElem?_cons_succ, decide_true, decide_false, if_true, if_false, Bool.false_eq_true, Bool.not_true, Bool.not_false, isNop, partR, o_add, o_sub, o_lt, o_le, o_gt, o_ge, o_eqi, o_nei, o_eqs, o_nes, o_in, o_notin, o_lent, o_lenl, o_lenc, o_abs, o_min, o_max, o_tupl, o_tupt, o_sll, fin_f, e1]
    refine ⟨?_, by simp [D.top]⟩
    congr 1
    have : ((ds.length : Int) == 3) = decide (ds.length = 3) := by
      by_cases c : ds.length = 3
      · simp [c]
      · have : ((ds.length : Int) == 3) = false := by rw [beq_eq_false_iff_ne]; omega
        simp [c, this]
    exact this
  all_goals simp [isT, rd, row3, D.top, WP_ok]
def okD (d : D) : Bool := ok1 d && (match d with
  | .tup ds => ds.all ok1
  | _ => true)
theorem okD_1 {d : D} (h : okD d = true) : ok1 d = true := by unfold okD at h; simp only [Bool.and_eq_true] at h; exact h.1
theorem okD_t {ds : List D} (h : okD (.tup ds) = true) : ∀ d ∈ ds, ok1 d = true := by
  unfold okD at h
  simp only [Bool.and_eq_true] at h
  exact List.all_eq_true.mp h.2
def isId : D → Bool
  | .tup [a, b, c] => below a 8 && (isName b && below c 1000001)
  | _ => false
theorem row3_of {ds : List D} (h : row3 (.tup ds) = true) : ∃ a b c, ds = [a, b, c] := by
  unfold row3 at h
  rw [decide_eq_true_eq] at h
  match ds, h with
  | [a, b, c], _ => exact ⟨a, b, c, rfl⟩
theorem row3_no {d : D} (h : row3 d = false) : isId d = false := by
  cases d with
  | tup ds =>
    match ds, h with
    | [], _ => rfl
    | [_], _ => rfl
    | [_, _], _ => rfl
    | [_, _, _], h => simp [row3] at h
    | _ :: _ :: _ :: _ :: _, _ => rfl
  | _ => rfl
theorem e_id {P : List Fn} {f w b r hh m c w2 : Nat} (hf : P[f]? = some (isIdFn r hh m c)) (hr : P[r]? = some isRowFn) (hhh : P[hh]? = some (isHandFn b)) (hm : P[m]? = some (isNameFn w2)) (hw2 : P[w2]? = some isWordFn) (hc : P[c]? = some (isCountFn b)) (hb : P[b]? = some (isBelowFn w)) (hw : P[w]? = some isWholeFn) (n : Nat) {d : D} (s : St) (h : okD d = true) : callF P (n + 4) f [d] s = .ok (.bl (isId d)) s := by
  refine eq_of_wp ?_
  rw [callF_eq (fn := (isIdFn r hh m c)) hf rfl, WP_back]
  show WS (exB _ (isIdFn r hh m c).body [some d] s) _ _
  have hk := ok1_kk (okD_1 h)
  simp -implicitDefEqProofs only [exB_cons, exB_nil, exS_expr, exS_set, exS_setSub, exS_fz, exS_ife, exS_ret, exS_pass, den_nop, den_c, den_v, den_bin, den_neg, den_cmp, den_chain, den_and, den_or, den_not, den_ite, den_tup, den_lst, den_sub, den_rev, den_callv, exS_raise, exS_tryR, den_sl, den_call, den_blt, den_meth, denL_nil, denL_cons, WS_seq, WS_toS, WS_nx, WS_rt, WS_asB, WS_ite, WP_bind, WP_ok, WP_asB, WP_ite, bindP, setAll, List.set_cons_zero, List.set_cons_succ, List.getElem?_cons_zero, List.getElem?_cons_succ, decide_true, decide_false, if_true, if_false, Bool.false_eq_true, Bool.not_true, Bool.not_false, isNop, partR, o_add, o_sub, o_lt, o_le, o_gt, o_ge, o_eqi, o_nei, o_eqs, o_nes, o_in, o_notin, o_lent, o_lenl, o_lenc, o_abs, o_min, o_max, o_tupl, o_tupt, o_sll, fin_f, isIdFn]
  rw [show n + 3 = (n + 2) + 1 from rfl, e_row hr (n + 2) s hk]
  simp -implicitDefEqProofs only [exB_cons, exB_nil, exS_expr, exS_set, exS_setSub, exS_fz, exS_ife, exS_ret, exS_pass, den_nop, den_c, den_v, den_bin, den_neg, den_cmp, den_chain, den_and, den_or, den_not, den_ite, den_tup, den_lst, den_sub, den_rev, den_callv, exS_raise, exS_tryR, den_sl, den_call, den_blt, den_meth, denL_nil, denL_cons, WS_seq, WS_toS, WS_nx, WS_rt, WS_asB, WS_ite, WP_bind, WP_ok, WP_asB, WP_ite, bindP, setAll, List.set_cons_zero, List.set_cons_succ, List.getElem?_cons_zero, List.getElem?_cons_succ, decide_true, decide_false, if_true, if_false, Bool.false_eq_true, Bool.not_true, Bool.not_false, isNop, partR, o_add, o_sub, o_lt, o_le, o_gt, o_ge, o_eqi, o_nei, o_eqs, o_nes, o_in, o_notin, o_lent, o_lenl, o_lenc, o_abs, o_min, o_max, o_tupl, o_tupt, o_sll, fin_f]
  cases hr3 : row3 d with
  | false => simp [row3_no hr3, WP_ok, D.top]
  | true =>
    cases d <;> first | (cases hr3; done) | skip
    rename_i ds
    obtain ⟨a, b, c, rfl⟩ := row3_of hr3
    have ha := okD_t h a (by simp)
    have hb1 := okD_t h b (by simp)
    have hc1 := okD_t h c (by simp)
    have i0 : subD (.tup [a, b, c]) (.int 0) s = .ok a s := rfl
    have i1 : subD (.tup [a, b, c]) (.int 1) s = .ok b s := rfl
    have i2 : subD (.tup [a, b, c]) (.int 2) s = .ok c s := rfl
    simp -implicitDefEqProofs only [exB_cons, exB_nil, exS_expr, exS_set, exS_setSub, exS_fz, exS_ife, exS_ret, exS_pass, den_nop, den_c, den_v, den_bin, den_neg, den_cmp, den_chain, den_and, den_or, den_not, den_ite, den_tup, den_lst, den_sub, den_rev, den_callv, exS_raise, exS_tryR, den_sl, den_call, den_blt, den_meth, denL_nil, denL_cons, WS_seq, WS_toS, WS_nx, WS_rt, WS_asB, WS_ite, WP_bind, WP_ok, WP_asB, WP_ite, bindP, setAll, List.set_cons_zero, List.set_cons_succ, List.getElem?_cons_zero, List.getElem?_cons_succ, decide_true, decide_false, if_true, if_false, Bool.false_eq_true, Bool.not_true, Bool.not_false, isNop, partR, o_add, o_sub, o_lt, o_le, o_gt, o_ge, o_eqi, o_nei, o_eqs, o_nes, o_in, o_notin, o_lent, o_lenl, o_lenc, o_abs, o_min, o_max, o_tupl, o_tupt, o_sll, fin_f, i0]
    rw [show n + 2 + 1 = n + 3 from rfl, e_hand hhh hb hw n s (ok1_kk ha)]
    simp -implicitDefEqProofs only [exB_cons, exB_nil, exS_expr, exS_set, exS_setSub, exS_fz, exS_ife, exS_ret, exS_pass, den_nop, den_c, den_v, den_bin, den_neg, den_cmp, den_chain, den_and, den_or, den_not, den_ite, den_tup, den_lst, den_sub, den_rev, den_callv, exS_raise, exS_tryR, den_sl, den_call, den_blt, den_meth, denL_nil, denL_cons, WS_seq, WS_toS, WS_nx, WS_rt, WS_asB, WS_ite, WP_bind, WP_ok, WP_asB, WP_ite, bindP, setAll, List.set_cons_zero, List.set_cons_succ, List.getElem?_cons_zero, List.getElem?_cons_succ, decide_true, decide_false, if_true, if_false, Bool.false_eq_true, Bool.not_true, Bool.not_false, isNop, partR, o_add, o_sub, o_lt, o_le, o_gt, o_ge, o_eqi, o_nei, o_eqs, o_nes, o_in, o_notin, o_lent, o_lenl, o_lenc, o_abs, o_min, o_max, o_tupl, o_tupt, o_sll, fin_f]
    cases q0 : below a 8
    · simp [isId, q0, WP_ok, D.top]
    · simp -implicitDefEqProofs only [exB_cons, exB_nil, exS_expr, exS_set, exS_setSub, exS_fz, exS_ife, exS_ret, exS_pass, den_nop, den_c, den_v, den_bin, den_neg, den_cmp, den_chain, den_and, den_or, den_not, den_ite, den_tup, den_lst, den_sub, den_rev, den_callv, exS_raise, exS_tryR, den_sl, den_call, den_blt, den_meth, denL_nil, denL_cons, WS_seq, WS_toS, WS_nx, WS_rt, WS_asB, WS_ite, WP_bind, WP_ok, WP_asB, WP_ite, bindP, setAll, List.set_cons_zero, List.set_cons_succ, List.getElem?_cons_zero, List.getElem?_cons_succ, decide_true, decide_false, if_true, if_false, Bool.false_eq_true, Bool.not_true, Bool.not_false, isNop, partR, o_add, o_sub, o_lt, o_le, o_gt, o_ge, o_eqi, o_nei, o_eqs, o_nes, o_in, o_notin, o_lent, o_lenl, o_lenc, o_abs, o_min, o_max, o_tupl, o_tupt, o_sll, fin_f, i1]
      rw [show n + 3 = (n + 1) + 2 from rfl, e_name hm hw2 (n + 1) s hb1]
      simp -implicitDefEqProofs only [exB_cons, exB_nil, exS_expr, exS_set, exS_setSub, exS_fz, exS_ife, exS_ret, exS_pass, den_nop, den_c, den_v, den_bin, den_neg, den_cmp, den_chain, den_and, den_or, den_not, den_ite, den_tup, den_lst, den_sub, den_rev, den_callv, exS_raise, exS_tryR, den_sl, den_call, den_blt, den_meth, denL_nil, denL_cons, WS_seq, WS_toS, WS_nx, WS_rt, WS_asB, WS_ite, WP_bind, WP_ok, WP_asB, WP_ite, bindP, setAll, List.set_cons_zero, List.set_cons_succ, List.getElem?_cons_zero, List.getElem?_cons_succ, decide_true, decide_false, if_true, if_false, Bool.false_eq_true, Bool.not_true, Bool.not_false, isNop, partR, o_add, o_sub, o_lt, o_le, o_gt, o_ge, o_eqi, o_nei, o_eqs, o_nes, o_in, o_notin, o_lent, o_lenl, o_lenc, o_abs, o_min, o_max, o_tupl, o_tupt, o_sll, fin_f]
      cases q1 : isName b
      · simp [isId, q0, q1, WP_ok, D.top]
      · simp -implicitDefEqProofs only [exB_cons, exB_nil, exS_expr, exS_set, exS_setSub, exS_fz, exS_ife, exS_ret, exS_pass, den_nop, den_c, den_v, den_bin, den_neg, den_cmp, den_chain, den_and, den_or, den_not, den_ite, den_tup, den_lst, den_sub, den_rev, den_callv, exS_raise, exS_tryR, den_sl, den_call, den_blt, den_meth, denL_nil, denL_cons, WS_seq, WS_toS, WS_nx, WS_rt, WS_asB, WS_ite, WP_bind, WP_ok, WP_asB, WP_ite, bindP, setAll, List.set_cons_zero, List.set_cons_succ, List.getElem?_cons_zero, List.getElem?_cons_succ, decide_true, decide_false, if_true, if_false, Bool.false_eq_true, Bool.not_true, Bool.not_false, isNop, partR, o_add, o_sub, o_lt, o_le, o_gt, o_ge, o_eqi, o_nei, o_eqs, o_nes, o_in, o_notin, o_lent, o_lenl, o_lenc, o_abs, o_min, o_max, o_tupl, o_tupt, o_sll, fin_f, i2]
        rw [show n + 1 + 2 = n + 3 from rfl, e_count hc hb hw n s (ok1_kk hc1)]
        simp [isId, q0, q1, WP_ok, D.top]
/-- 10 ** 6, 10 ** 9 -/
theorem cP6 {s : St} {t : Bool} : binD .pow t (.int 10) (.int 6) s = .ok (.int 1000000) s := by simp only [binD, rd]; rw [if_pos (by decide +kernel)]; rfl
theorem cP9 {s : St} {t : Bool} : binD .pow t (.int 10) (.int 9) s = .ok (.int 1000000000) s := by simp only [binD, rd]; rw [if_pos (by decide +kernel)]; rfl
end Fk

set_option Elab.async false
set_option linter.all false
set_option autoImplicit false
set_option maxRecDepth 100000
set_option maxHeartbeats 0
namespace Lw_k03
open PySem PySem.Spec PyProof.Rows L2 Fk L3
abbrev lawProg : PySem.Program := PySem.Challenge.pw_forkrolls_k03_places_known
def top (i : Nat) : Stmt := lawProg.main.body.getD i (.Pass ⟨0, 0, 0, 0⟩)
def tab : Tab := { fns := ((["is_whole", "is_below", "is_row", "is_word", "is_name", "is_key", "is_value", "is_hand", "is_kind", "is_count", "is_id", "is_true", "is_place", "need_place", "fits", "table_of"] : List PySem.Str) ++ (["may_stand", "_law_pot", "_law_take", "_law_whole", "_law_word", "_law_words_all", "_law_an_id", "_law_a_key", "_law_a_place", "_law_odd", "_law_bent", "_law_is_name", "_law_is_id", "_law_is_key", "_law_is_place", "_law_stands"] : List PySem.Str) ++ (["_law_told", "_law_right", "law"] : List PySem.Str)), excs := ((["NoPlace", "RollError"] : List PySem.Str)), consts := [("BARRED", .str [107, 101, 121]), ("FAR", .int 1000000000), ("HANDS", .int 8), ("KINDS", .tup [.str [110, 117, 109, 98, 101, 114], .str [119, 111, 114, 100], .str [97, 110, 121]]), ("LETTERS", .str [97, 98, 99, 100, 101, 102, 103, 104, 105, 106, 107, 108, 109, 110, 111, 112, 113, 114, 115, 116, 117, 118, 119, 120, 121, 122]), ("MOST_COUNT", .int 1000000), ("MOST_LETTERS", .int 8)], blts := ((["abs", "all", "bool", "int", "isinstance", "len", "list", "max", "min", "range", "str", "tuple"] : List PySem.Str)), tabs := [("STANDING", [([116, 97, 98, 108, 101], .fn 11), ([99, 111, 108, 117, 109, 110], .fn 11), ([110, 97, 109, 101], .fn 4), ([115, 108, 111, 116], .fn 10), ([107, 105, 110, 100], .fn 8), ([101, 108, 115, 101], .fn 6), ([114, 111, 119], .fn 11), ([99, 101, 108, 108], .fn 6)])], subs := [(0, 0), (0, 1), (1, 1)] }
def fn0 : Fk.Fn := ⟨1, 1, [.ret (.and (.blt (.isinst 0) false [.v 0, .c (.ty 0)]) (.not (.blt (.isinst 1) false [.v 0, .c (.ty 1)])))]⟩
def fn1 : Fk.Fn := ⟨2, 2, [.ret (.and (.call 0 [.v 0]) (.chain .le .lt (.c (.int 0)) (.v 0) (.v 1)))]⟩
def fn2 : Fk.Fn := ⟨2, 2, [.ret (.and (.blt (.isinst 3) false [.v 0, .c (.ty 3)]) (.cmp .eq (.blt .len false [.v 0]) (.v 1)))]⟩
def fn3 : Fk.Fn := ⟨1, 2, [.ife (.or (.not (.blt (.isinst 2) false [.v 0, .c (.ty 2)])) (.not (.chain .le .le (.c (.int 1)) (.blt .len false [.v 0]) (.c (.int 8))))) [.ret (.c (.bl false))] [], .ret (.blt .all false [.lc (.cmp .isin (.v 1) (.c (.str [97, 98, 99, 100, 101, 102, 103, 104, 105, 106, 107, 108, 109, 110, 111, 112, 113, 114, 115, 116, 117, 118, 119, 120, 121, 122]))) (.s 1) .val [.v 0] (.c (.bl true))])]⟩
def fn4 : Fk.Fn := ⟨1, 1, [.ret (.and (.call 3 [.v 0]) (.cmp .ne (.v 0) (.c (.str [107, 101, 121]))))]⟩
def fn5 : Fk.Fn := ⟨1, 1, [.ret (.call 1 [.v 0, .bin .add false (.c (.int 1000000000)) (.c (.int 1))])]⟩
def fn6 : Fk.Fn := ⟨1, 1, [.ret (.or (.call 3 [.v 0]) (.and (.call 0 [.v 0]) (.chain .le .le (.neg (.c (.int 1000000000))) (.v 0) (.c (.int 1000000000)))))]⟩
def fn7 : Fk.Fn := ⟨1, 1, [.ret (.call 1 [.v 0, .c (.int 8)])]⟩
def fn8 : Fk.Fn := ⟨1, 1, [.ret (.and (.blt (.isinst 2) false [.v 0, .c (.ty 2)]) (.cmp .isin (.v 0) (.c (.tup [.str [110, 117, 109, 98, 101, 114], .str [119, 111, 114, 100], .str [97, 110, 121]]))))]⟩
def fn9 : Fk.Fn := ⟨1, 1, [.ret (.call 1 [.v 0, .bin .add false (.c (.int 1000000)) (.c (.int 1))])]⟩
def fn10 : Fk.Fn := ⟨1, 1, [.ret (.and (.call 2 [.v 0, .c (.int 3)]) (.and (.call 7 [.sub (.v 0) (.c (.int 0))]) (.and (.call 4 [.sub (.v 0) (.c (.int 1))]) (.call 9 [.sub (.v 0) (.c (.int 2))]))))]⟩
def fn11 : Fk.Fn := ⟨1, 1, [.ret (.cmp .is_ (.v 0) (.c (.bl true)))]⟩
def fn12 : Fk.Fn := ⟨1, 4, [.ife (.or (.not (.blt (.isinst 3) false [.v 0, .c (.ty 3)])) (.or (.cmp .lt (.blt .len false [.v 0]) (.c (.int 2))) (.or (.not (.blt (.isinst 2) false [.sub (.v 0) (.c (.int 0)), .c (.ty 2)])) (.not (.call 4 [.sub (.v 0) (.c (.int 1))]))))) [.ret (.c (.bl false))] [], .set (.st [1, 2] 3) (.v 0), .ife (.cmp .isin (.v 1) (.tup [.c (.str [99, 111, 108, 117, 109, 110]), .c (.str [110, 97, 109, 101]), .c (.str [107, 105, 110, 100]), .c (.str [101, 108, 115, 101])])) [.ret (.and (.cmp .eq (.blt .len false [.v 3]) (.c (.int 1))) (.call 10 [.sub (.v 3) (.c (.int 0))]))] [], .ife (.cmp .eq (.v 1) (.c (.str [115, 108, 111, 116]))) [.ret (.and (.cmp .eq (.blt .len false [.v 3]) (.c (.int 1))) (.call 4 [.sub (.v 3) (.c (.int 0))]))] [], .ife (.cmp .eq (.v 1) (.c (.str [114, 111, 119]))) [.ret (.and (.cmp .eq (.blt .len false [.v 3]) (.c (.int 1))) (.call 5 [.sub (.v 3) (.c (.int 0))]))] [], .ife (.cmp .eq (.v 1) (.c (.str [99, 101, 108, 108]))) [.ret (.and (.cmp .eq (.blt .len false [.v 3]) (.c (.int 2))) (.and (.call 5 [.sub (.v 3) (.c (.int 0))]) (.call 10 [.sub (.v 3) (.c (.int 1))])))] [], .ret (.and (.cmp .eq (.v 1) (.c (.str [116, 97, 98, 108, 101]))) (.cmp .eq (.v 3) (.lst false [])))]⟩
def fn13 : Fk.Fn := ⟨1, 1, [.ife (.not (.call 12 [.v 0])) [.raise 0] []]⟩
def fn14 : Fk.Fn := ⟨2, 3, [.set (.s 2) (.sub (.c (.tab [[116, 97, 98, 108, 101], [99, 111, 108, 117, 109, 110], [110, 97, 109, 101], [115, 108, 111, 116], [107, 105, 110, 100], [101, 108, 115, 101], [114, 111, 119], [99, 101, 108, 108]] [.fn 11, .fn 11, .fn 4, .fn 10, .fn 8, .fn 6, .fn 11, .fn 6])) (.sub (.v 0) (.c (.int 0)))), .ret (.callv 2 [.v 1])]⟩
def fn15 : Fk.Fn := ⟨1, 1, [.expr (.call 13 [.v 0]), .ret (.sub (.v 0) (.c (.int 1)))]⟩
def fn16 : Fk.Fn := ⟨2, 2, [.expr (.call 13 [.v 0]), .ret (.call 14 [.v 0, .v 1])]⟩
def fn17 : Fk.Fn := ⟨2, 3, [.set (.s 2) (.c (.int 0)), .ife (.cmp .lt (.v 1) (.blt .len false [.v 0])) [.set (.s 2) (.bin .mod false (.blt .abs false [.sub (.v 0) (.v 1)]) (.bin .pow false (.bin .pow false (.c (.int 10)) (.c (.int 60))) (.c (.int 10))))] [], .ret (.lst true [.bin .mul false (.v 2) (.blt .int_ false [.cmp .ge (.v 2) (.bin .pow false (.c (.int 10)) (.c (.int 18)))]), .bin .mod false (.bin .pow false (.bin .add false (.bin .add false (.bin .mod false (.v 2) (.c (.int 2147483629))) (.bin .mul false (.c (.int 7919)) (.v 1))) (.c (.int 1))) (.c (.int 5))) (.c (.int 2305843009213693951)), .c (.int 0)])]⟩
def fn18 : Fk.Fn := ⟨2, 5, [.ife (.cmp .gt (.sub (.v 0) (.c (.int 0))) (.c (.int 0))) [.set (.s 4) (.bin .mod false (.sub (.v 0) (.c (.int 0))) (.v 1)), .setSub (.v 0) (.c (.int 0)) (.bin .fdiv false (.sub (.v 0) (.c (.int 0))) (.v 1)), .ret (.v 4)] [], .setSub (.v 0) (.c (.int 2)) (.bin .add false (.sub (.v 0) (.c (.int 2))) (.c (.int 1))), .set (.s 2) (.bin .mod false (.bin .pow false (.bin .add false (.sub (.v 0) (.c (.int 1))) (.bin .mul false (.c (.int 104729)) (.sub (.v 0) (.c (.int 2))))) (.c (.int 3))) (.c (.int 2305843009213693921))), .set (.s 3) (.bin .mod false (.bin .pow false (.bin .add false (.bin .add false (.v 2) (.bin .mod false (.sub (.v 0) (.c (.int 1))) (.c (.int 65537)))) (.bin .mul false (.c (.int 31)) (.sub (.v 0) (.c (.int 2))))) (.c (.int 5))) (.c (.int 2305843009213693907))), .ret (.bin .mod false (.bin .fdiv false (.v 3) (.c (.int 1024))) (.v 1))]⟩
def fn19 : Fk.Fn := ⟨1, 1, [.ret (.and (.blt (.isinst 0) false [.v 0, .c (.ty 0)]) (.not (.blt (.isinst 1) false [.v 0, .c (.ty 1)])))]⟩
def fn20 : Fk.Fn := ⟨1, 4, [.set (.s 1) (.sub (.lst false [.c (.int 1), .c (.int 2), .bin .add false (.c (.int 1)) (.call 18 [.v 0, .c (.int 8)])]) (.call 18 [.v 0, .c (.int 3)])), .set (.s 2) (.meth .join (.c (.str [])) [.lc (.sub (.c (.str [97, 98, 99, 100, 101, 102, 103, 104, 105, 106, 107, 108, 109, 110, 111, 112, 113, 114, 115, 116, 117, 118, 119, 120, 121, 122])) (.call 18 [.v 0, .c (.int 26)])) (.s 3) .range1 [.v 1] (.c (.bl true))]), .ret (.ite (.cmp .eq (.v 2) (.c (.str [107, 101, 121]))) (.c (.str [107, 101, 121, 115])) (.v 2))]⟩
def fn21 : Fk.Fn := ⟨0, 0, [.ret (.lst false [.c (.str [116, 97, 98, 108, 101]), .c (.str [99, 111, 108, 117, 109, 110]), .c (.str [110, 97, 109, 101]), .c (.str [115, 108, 111, 116]), .c (.str [107, 105, 110, 100]), .c (.str [101, 108, 115, 101]), .c (.str [114, 111, 119]), .c (.str [99, 101, 108, 108])])]⟩
def fn22 : Fk.Fn := ⟨1, 1, [.ret (.tup [.call 18 [.v 0, .c (.int 8)], .call 20 [.v 0], .sub (.lst false [.call 18 [.v 0, .c (.int 9)], .call 18 [.v 0, .bin .add false (.bin .pow false (.c (.int 10)) (.c (.int 6))) (.c (.int 1))]]) (.call 18 [.v 0, .c (.int 2)])])]⟩
def fn23 : Fk.Fn := ⟨1, 1, [.ret (.sub (.lst false [.call 18 [.v 0, .c (.int 9)], .call 18 [.v 0, .bin .add false (.bin .pow false (.c (.int 10)) (.c (.int 9))) (.c (.int 1))], .bin .pow false (.c (.int 10)) (.c (.int 9)), .c (.int 0)]) (.call 18 [.v 0, .c (.int 4)]))]⟩
def fn24 : Fk.Fn := ⟨2, 3, [.set (.s 2) (.call 20 [.v 0]), .ife (.cmp .eq (.v 1) (.c (.str [116, 97, 98, 108, 101]))) [.ret (.tup [.v 1, .v 2])] [], .ife (.cmp .eq (.v 1) (.c (.str [115, 108, 111, 116]))) [.ret (.tup [.v 1, .v 2, .call 20 [.v 0]])] [], .ife (.cmp .eq (.v 1) (.c (.str [114, 111, 119]))) [.ret (.tup [.v 1, .v 2, .call 23 [.v 0]])] [], .ife (.cmp .eq (.v 1) (.c (.str [99, 101, 108, 108]))) [.ret (.tup [.v 1, .v 2, .call 23 [.v 0], .call 22 [.v 0]])] [], .ret (.tup [.v 1, .v 2, .call 22 [.v 0]])]⟩
def fn25 : Fk.Fn := ⟨1, 2, [.set (.s 1) (.lst false [.c (.none), .c (.bl true), .c (.bl false), .c (.int 0), .c (.int 1), .c (.int 7), .c (.int 8), .neg (.c (.int 1)), .bin .pow false (.c (.int 10)) (.c (.int 6)), .bin .add false (.bin .pow false (.c (.int 10)) (.c (.int 6))) (.c (.int 1)), .bin .pow false (.c (.int 10)) (.c (.int 9)), .bin .add false (.bin .pow false (.c (.int 10)) (.c (.int 9))) (.c (.int 1)), .neg (.bin .pow false (.c (.int 10)) (.c (.int 9))), .bin .sub false (.neg (.bin .pow false (.c (.int 10)) (.c (.int 9)))) (.c (.int 1))]), .set (.s 1) (.bin .add false (.v 1) (.lst false [.bin .pow false (.c (.int 10)) (.c (.int 39)), .c (.str []), .c (.str [97]), .c (.str [107, 101, 121]), .c (.str [97, 98, 99, 100, 101, 102, 103, 104]), .c (.str [97, 98, 99, 100, 101, 102, 103, 104, 105]), .c (.str [65]), .c (.str [97, 32, 98]), .c (.str [110, 117, 109, 98, 101, 114]), .c (.str [119, 111, 114, 100]), .c (.str [97, 110, 121]), .c (.str [111, 116, 104, 101, 114]), .tup []])), .set (.s 1) (.bin .add false (.v 1) (.lst false [.tup [.c (.int 0), .c (.str [97]), .c (.int 0)], .tup [.c (.int 8), .c (.str [97]), .c (.int 0)], .tup [.c (.int 0), .c (.str [107, 101, 121]), .c (.int 0)], .tup [.c (.int 0), .c (.str [97]), .neg (.c (.int 1))], .tup [.c (.int 0), .c (.str [97]), .bin .add false (.bin .pow false (.c (.int 10)) (.c (.int 6))) (.c (.int 1))], .tup [.c (.bl true), .c (.str [97]), .c (.int 0)]])), .set (.s 1) (.bin .add false (.v 1) (.lst false [.tup [.c (.int 0), .c (.str [97])], .tup [.c (.int 0), .c (.str [97]), .c (.int 0), .c (.int 0)], .lst false [.c (.int 0), .c (.str [97]), .c (.int 0)], .lst false [], .dic [], .tup [.c (.str [97])], .tup [.c (.str [116, 97, 98, 108, 101]), .c (.str [97])], .tup [.c (.int 0), .c (.int 0), .c (.int 0)], .tup [.c (.str [97]), .c (.str [97]), .c (.int 0)]])), .ret (.sub (.v 1) (.call 18 [.v 0, .blt .len false [.v 1]]))]⟩
def fn26 : Fk.Fn := ⟨2, 5, [.set (.s 2) (.call 18 [.v 0, .blt .len false [.v 1]]), .set (.s 3) (.call 25 [.v 0]), .set (.s 4) (.lst false [.bin .add false (.bin .add false (.sl false (.v 1) (.nop) (.v 2)) (.tup [.v 3])) (.sl false (.v 1) (.bin .add false (.v 2) (.c (.int 1))) (.nop)), .bin .add false (.bin .add false (.sl false (.v 1) (.nop) (.v 2)) (.tup [.v 3])) (.sl false (.v 1) (.bin .add false (.v 2) (.c (.int 1))) (.nop)), .bin .add false (.sl false (.v 1) (.nop) (.v 2)) (.sl false (.v 1) (.bin .add false (.v 2) (.c (.int 1))) (.nop))]), .set (.s 4) (.bin .add false (.v 4) (.lst false [.bin .add false (.v 1) (.tup [.v 3]), .blt .list_ false [.v 1], .bin .add false (.tup [.sub (.call 21 []) (.call 18 [.v 0, .c (.int 8)])]) (.sl false (.v 1) (.c (.int 1)) (.nop)), .rev (.v 1), .v 3])), .ret (.sub (.v 4) (.call 18 [.v 0, .c (.int 8)]))]⟩
def fn27 : Fk.Fn := ⟨1, 2, [.ife (.or (.not (.blt (.isinst 2) false [.v 0, .c (.ty 2)])) (.or (.cmp .eq (.v 0) (.c (.str [107, 101, 121]))) (.not (.chain .lt .lt (.c (.int 0)) (.blt .len false [.v 0]) (.c (.int 9)))))) [.ret (.c (.bl false))] [], .ret (.cmp .eq (.lc (.v 1) (.s 1) .val [.v 0] (.cmp .notin (.v 1) (.c (.str [97, 98, 99, 100, 101, 102, 103, 104, 105, 106, 107, 108, 109, 110, 111, 112, 113, 114, 115, 116, 117, 118, 119, 120, 121, 122])))) (.lst false []))]⟩
def fn28 : Fk.Fn := ⟨1, 1, [.ife (.or (.not (.blt (.isinst 3) false [.v 0, .c (.ty 3)])) (.or (.cmp .ne (.blt .len false [.v 0]) (.c (.int 3))) (.not (.call 27 [.sub (.v 0) (.c (.int 1))])))) [.ret (.c (.bl false))] [], .ife (.or (.not (.call 19 [.sub (.v 0) (.c (.int 0))])) (.not (.call 19 [.sub (.v 0) (.c (.int 2))]))) [.ret (.c (.bl false))] [], .ret (.and (.chain .le .le (.c (.int 0)) (.sub (.v 0) (.c (.int 0))) (.c (.int 7))) (.chain .le .le (.c (.int 0)) (.sub (.v 0) (.c (.int 2))) (.bin .pow false (.c (.int 10)) (.c (.int 6)))))]⟩
def fn29 : Fk.Fn := ⟨1, 1, [.ret (.and (.call 19 [.v 0]) (.chain .le .le (.c (.int 0)) (.v 0) (.bin .pow false (.c (.int 10)) (.c (.int 9)))))]⟩
def fn30 : Fk.Fn := ⟨1, 2, [.ife (.or (.not (.blt (.isinst 3) false [.v 0, .c (.ty 3)])) (.or (.cmp .lt (.blt .len false [.v 0]) (.c (.int 2))) (.or (.not (.blt (.isinst 2) false [.sub (.v 0) (.c (.int 0)), .c (.ty 2)])) (.not (.call 27 [.sub (.v 0) (.c (.int 1))]))))) [.ret (.c (.bl false))] [], .set (.s 1) (.sub (.v 0) (.c (.int 0))), .ife (.cmp .eq (.v 1) (.c (.str [116, 97, 98, 108, 101]))) [.ret (.cmp .eq (.blt .len false [.v 0]) (.c (.int 2)))] [], .ife (.cmp .eq (.v 1) (.c (.str [99, 101, 108, 108]))) [.ret (.and (.cmp .eq (.blt .len false [.v 0]) (.c (.int 4))) (.and (.call 29 [.sub (.v 0) (.c (.int 2))]) (.call 28 [.sub (.v 0) (.c (.int 3))])))] [], .ife (.cmp .ne (.blt .len false [.v 0]) (.c (.int 3))) [.ret (.c (.bl false))] [], .ife (.cmp .eq (.v 1) (.c (.str [115, 108, 111, 116]))) [.ret (.call 27 [.sub (.v 0) (.c (.int 2))])] [], .ife (.cmp .eq (.v 1) (.c (.str [114, 111, 119]))) [.ret (.call 29 [.sub (.v 0) (.c (.int 2))])] [], .ret (.and (.cmp .isin (.v 1) (.lst false [.c (.str [99, 111, 108, 117, 109, 110]), .c (.str [110, 97, 109, 101]), .c (.str [107, 105, 110, 100]), .c (.str [101, 108, 115, 101])])) (.call 28 [.sub (.v 0) (.c (.int 2))]))]⟩
def fn31 : Fk.Fn := ⟨2, 3, [.set (.s 2) (.sub (.v 0) (.c (.int 0))), .ife (.cmp .isin (.v 2) (.lst false [.c (.str [116, 97, 98, 108, 101]), .c (.str [99, 111, 108, 117, 109, 110]), .c (.str [114, 111, 119])])) [.ret (.and (.blt (.isinst 1) false [.v 1, .c (.ty 1)]) (.v 1))] [], .ife (.cmp .eq (.v 2) (.c (.str [110, 97, 109, 101]))) [.ret (.call 27 [.v 1])] [], .ife (.cmp .eq (.v 2) (.c (.str [115, 108, 111, 116]))) [.ret (.call 28 [.v 1])] [], .ife (.cmp .eq (.v 2) (.c (.str [107, 105, 110, 100]))) [.ret (.and (.blt (.isinst 2) false [.v 1, .c (.ty 2)]) (.cmp .isin (.v 1) (.lst false [.c (.str [110, 117, 109, 98, 101, 114]), .c (.str [119, 111, 114, 100]), .c (.str [97, 110, 121])])))] [], .ife (.blt (.isinst 2) false [.v 1, .c (.ty 2)]) [.ret (.or (.call 27 [.v 1]) (.cmp .eq (.v 1) (.c (.str [107, 101, 121]))))] [], .ret (.and (.call 19 [.v 1]) (.cmp .le (.blt .abs false [.v 1]) (.bin .pow false (.c (.int 10)) (.c (.int 9)))))]⟩
def fn32 : Fk.Fn := ⟨3, 4, [.tryR [.ife (.cmp .eq (.v 0) (.c (.int 0))) [.ret (.call 15 [.v 1])] [], .ret (.call 16 [.v 1, .v 2])] [0, 1] 1 3 [.k (.str [114, 101, 102, 117, 115, 101, 100]), .isx 0 [0]]]⟩
def fn33 : Fk.Fn := ⟨2, 5, [.set (.s 2) (.call 30 [.v 0]), .set (.s 3) (.call 12 [.v 0]), .ife (.or (.not (.blt (.isinst 1) false [.v 3, .c (.ty 1)])) (.cmp .ne (.v 3) (.v 2))) [.ret (.c (.bl false))] [], .ife (.not (.v 2)) [.ret (.and (.cmp .eq (.call 32 [.c (.int 0), .v 0, .v 1]) (.lst false [.c (.str [114, 101, 102, 117, 115, 101, 100]), .c (.bl true)])) (.cmp .eq (.call 32 [.c (.int 1), .v 0, .v 1]) (.lst false [.c (.str [114, 101, 102, 117, 115, 101, 100]), .c (.bl true)])))] [], .set (.s 4) (.call 32 [.c (.int 1), .v 0, .v 1]), .ret (.and (.cmp .eq (.call 32 [.c (.int 0), .v 0, .v 1]) (.sub (.v 0) (.c (.int 1)))) (.and (.blt (.isinst 1) false [.v 4, .c (.ty 1)]) (.cmp .eq (.v 4) (.call 31 [.v 0, .v 1]))))]⟩
def fn34 : Fk.Fn := ⟨1, 8, [.forr (.s 1) .range1 [.blt .max2 false [.c (.int 1), .blt .min2 false [.c (.int 30), .blt .len false [.v 0]]]] [.set (.s 2) (.call 17 [.v 0, .v 1]), .forr (.s 3) .val [.call 21 []] [.set (.s 4) (.call 24 [.v 2, .v 3]), .set (.s 5) (.sub (.lst false [.c (.str [110, 117, 109, 98, 101, 114]), .c (.str [119, 111, 114, 100]), .c (.str [97, 110, 121])]) (.call 18 [.v 2, .c (.int 3)])), .set (.s 6) (.lst false [.c (.bl true), .call 20 [.v 2], .call 22 [.v 2], .v 5, .call 23 [.v 2]]), .forr (.s 7) .val [.lst false [.sub (.v 6) (.call 18 [.v 2, .c (.int 5)]), .sub (.v 6) (.call 18 [.v 2, .c (.int 5)]), .call 25 [.v 2], .call 25 [.v 2]]] [.ife (.not (.call 33 [.v 4, .v 7])) [.ret (.c (.bl false))] []], .ife (.not (.call 33 [.call 26 [.v 2, .v 4], .call 25 [.v 2]])) [.ret (.c (.bl false))] []], .ife (.not (.call 33 [.call 25 [.v 2], .call 25 [.v 2]])) [.ret (.c (.bl false))] []], .ret (.c (.bl true))]⟩
def fd0 : FD := ⟨"is_whole", ["thing"], fn0, defArgs (top 11), defBody (top 11), defScope (top 11)⟩
def fd1 : FD := ⟨"is_below", ["thing", "most"], fn1, defArgs (top 12), defBody (top 12), defScope (top 12)⟩
def fd2 : FD := ⟨"is_row", ["thing", "many"], fn2, defArgs (top 13), defBody (top 13), defScope (top 13)⟩
def fd3 : FD := ⟨"is_word", ["thing", "letter"], fn3, defArgs (top 14), defBody (top 14), defScope (top 14)⟩
def fd4 : FD := ⟨"is_name", ["thing"], fn4, defArgs (top 15), defBody (top 15), defScope (top 15)⟩
def fd5 : FD := ⟨"is_key", ["thing"], fn5, defArgs (top 16), defBody (top 16), defScope (top 16)⟩
def fd6 : FD := ⟨"is_value", ["thing"], fn6, defArgs (top 17), defBody (top 17), defScope (top 17)⟩
def fd7 : FD := ⟨"is_hand", ["thing"], fn7, defArgs (top 18), defBody (top 18), defScope (top 18)⟩
def fd8 : FD := ⟨"is_kind", ["thing"], fn8, defArgs (top 19), defBody (top 19), defScope (top 19)⟩
def fd9 : FD := ⟨"is_count", ["thing"], fn9, defArgs (top 20), defBody (top 20), defScope (top 20)⟩
def fd10 : FD := ⟨"is_id", ["thing"], fn10, defArgs (top 21), defBody (top 21), defScope (top 21)⟩
def fd11 : FD := ⟨"is_true", ["thing"], fn11, defArgs (top 23), defBody (top 23), defScope (top 23)⟩
def fd12 : FD := ⟨"is_place", ["thing", "word", "table", "rest"], fn12, defArgs (top 25), defBody (top 25), defScope (top 25)⟩
def fd13 : FD := ⟨"need_place", ["thing"], fn13, defArgs (top 26), defBody (top 26), defScope (top 26)⟩
def fd14 : FD := ⟨"fits", ["place", "thing", "look"], fn14, defArgs (top 27), defBody (top 27), defScope (top 27)⟩
def fd15 : FD := ⟨"table_of", ["place"], fn15, defArgs (top 28), defBody (top 28), defScope (top 28)⟩
def fd16 : FD := ⟨"may_stand", ["place", "thing"], fn16, defArgs (top 29), defBody (top 29), defScope (top 29)⟩
def fd17 : FD := ⟨"_law_pot", ["script", "k", "cell"], fn17, defArgs (top 31), defBody (top 31), defScope (top 31)⟩
def fd18 : FD := ⟨"_law_take", ["pot", "many", "one", "other", "found"], fn18, defArgs (top 32), defBody (top 32), defScope (top 32)⟩
def fd19 : FD := ⟨"_law_whole", ["found"], fn19, defArgs (top 33), defBody (top 33), defScope (top 33)⟩
def fd20 : FD := ⟨"_law_word", ["pot", "many", "word", "k"], fn20, defArgs (top 34), defBody (top 34), defScope (top 34)⟩
def fd21 : FD := ⟨"_law_words_all", [], fn21, defArgs (top 35), defBody (top 35), defScope (top 35)⟩
def fd22 : FD := ⟨"_law_an_id", ["pot"], fn22, defArgs (top 36), defBody (top 36), defScope (top 36)⟩
def fd23 : FD := ⟨"_law_a_key", ["pot"], fn23, defArgs (top 37), defBody (top 37), defScope (top 37)⟩
def fd24 : FD := ⟨"_law_a_place", ["pot", "word", "table"], fn24, defArgs (top 38), defBody (top 38), defScope (top 38)⟩
def fd25 : FD := ⟨"_law_odd", ["pot", "some"], fn25, defArgs (top 39), defBody (top 39), defScope (top 39)⟩
def fd26 : FD := ⟨"_law_bent", ["pot", "place", "at", "odd", "some"], fn26, defArgs (top 40), defBody (top 40), defScope (top 40)⟩
def fd27 : FD := ⟨"_law_is_name", ["thing", "letter"], fn27, defArgs (top 41), defBody (top 41), defScope (top 41)⟩
def fd28 : FD := ⟨"_law_is_id", ["thing"], fn28, defArgs (top 42), defBody (top 42), defScope (top 42)⟩
def fd29 : FD := ⟨"_law_is_key", ["thing"], fn29, defArgs (top 43), defBody (top 43), defScope (top 43)⟩
def fd30 : FD := ⟨"_law_is_place", ["thing", "word"], fn30, defArgs (top 44), defBody (top 44), defScope (top 44)⟩
def fd31 : FD := ⟨"_law_stands", ["place", "thing", "word"], fn31, defArgs (top 45), defBody (top 45), defScope (top 45)⟩
def fd32 : FD := ⟨"_law_told", ["way", "place", "thing", "e"], fn32, defArgs (top 46), defBody (top 46), defScope (top 46)⟩
def fd33 : FD := ⟨"_law_right", ["place", "thing", "good", "told", "found"], fn33, defArgs (top 47), defBody (top 47), defScope (top 47)⟩
def fd34 : FD := ⟨"law", ["script", "k", "pot", "word", "place", "kind", "fine", "thing"], fn34, defArgs (top 48), defBody (top 48), defScope (top 48)⟩
def ds : List FD := [fd0, fd1, fd2, fd3, fd4, fd5, fd6, fd7, fd8, fd9, fd10, fd11, fd12, fd13, fd14, fd15, fd16, fd17, fd18, fd19, fd20, fd21, fd22, fd23, fd24, fd25, fd26, fd27, fd28, fd29, fd30, fd31, fd32, fd33, fd34]
def P : List Fk.Fn := [fn0, fn1, fn2, fn3, fn4, fn5, fn6, fn7, fn8, fn9, fn10, fn11, fn12, fn13, fn14, fn15, fn16, fn17, fn18, fn19, fn20, fn21, fn22, fn23, fn24, fn25, fn26, fn27, fn28, fn29, fn30, fn31, fn32, fn33, fn34]
theorem okAll : (ds.all fun d => d.ok tab) = true := by decide +kernel
abbrev R : PySem.W.OpenRow := PySem.W.OpenLaw.row PySem.Challenge.rw_forkrolls_k03_places_known
abbrev hk : PySem.W.Hook := He.hookX 6 (faOf tab) (ds.map FD.d) (tsOf tab) [] (exOf tab)
def ob (s : PySem.W.SharedT) : He.AlX := He.obsX 6 (faOf tab) (ds.map FD.d) (tsOf tab) [] (exOf tab) (HandSHeadRun.getT s)
theorem ob_eq (s : PySem.W.SharedT) : ob s = hk.obs s.abs := He.obsX_eq (HandSHeadRun.getT_eq s)
def loose : List PySem.Str := (["__name__", "RollError", "NoPlace", "__name__", "LETTERS", "MOST_LETTERS", "BARRED", "KINDS", "FAR", "MOST_COUNT", "HANDS", "is_whole", "is_below", "is_row", "is_word", "is_name"] : List PySem.Str) ++ (["is_key", "is_value", "is_hand", "is_kind", "is_count", "is_id", "__name__", "is_true", "STANDING", "is_place", "need_place", "fits", "table_of", "may_stand", "__name__", "_law_pot"] : List PySem.Str) ++ (["_law_take", "_law_whole", "_law_word", "_law_words_all", "_law_an_id", "_law_a_key", "_law_a_place", "_law_odd", "_law_bent", "_law_is_name", "_law_is_id", "_law_is_key", "_law_is_place", "_law_stands", "_law_told", "_law_right"] : List PySem.Str)
theorem run (w : World) : HandSHeadRun.RunEq R (PySem.W.view R.prog [48]) hk ob 30000 loose w := by
  refine PySem.W.byRow2 "special-get-raises" (P := fun w => HandSHeadRun.RunEq R (PySem.W.view R.prog [48]) hk ob 30000 loose w) (fun w => ?_) (fun w => ?_) w
  · intro os
    kernel_rfl
  · intro os
    kernel_rfl
end Lw_k03

set_option Elab.async false
set_option linter.all false
set_option autoImplicit false
set_option maxRecDepth 100000
set_option maxHeartbeats 4000000
namespace Lw_k03
open Fk L3
abbrev PP : List Fk.Fn := ds.map (·.fn)
theorem cP9' {s : Fk.St} {t : Bool} : binD .add t (.int 1000000000) (.int 1) s = .ok (.int 1000000001) s := rfl
theorem e_key (n : Nat) {d : Fk.D} (s : Fk.St) (h : kk d = true) : callF PP (n + 3) 5 [d] s = .ok (.bl (below d 1000000001)) s := by
  refine eq_of_wp ?_
  rw [callF_eq (fn := fn5) rfl rfl, WP_back]
  show WS (exB _ fn5.body [some d] s) _ _
  have a1 : callF PP (n + 2) 1 [d, .int 1000000001] s = .ok (.bl (below d 1000000001)) s := e_below (P := PP) (f := 1) (w := 0) rfl rfl n s h
  simp -implicitDefEqProofs only [exB_cons, exB_nil, exS_expr, exS_set, exS_setSub, exS_fz, exS_ife, exS_ret, exS_pass, den_nop, den_c, den_v, den_bin, den_neg, den_cmp, den_chain, den_and, den_or, den_not, den_ite, den_tup, den_lst, den_sub, den_rev, den_callv, exS_raise, exS_tryR, den_sl, den_call, den_blt, den_meth, denL_nil, denL_cons, WS_seq, WS_toS, WS_nx, WS_rt, WS_asB, WS_ite, WP_bind, WP_ok, WP_asB, WP_ite, bindP, setAll, List.set_cons_zero, List.set_cons_succ, List.getElem?_cons_zero, List.getElem?_cons_succ, decide_true, decide_false, if_true, if_false, Bool.false_eq_true, Bool.not_true, Bool.not_false, isNop, partR, o_add, o_sub, o_lt, o_le, o_gt, o_ge, o_eqi, o_nei, o_eqs, o_nes, o_in, o_notin, o_lent, o_lenl, o_lenc, o_abs, o_min, o_max, o_tupl, o_tupt, o_sll, fin_f, fn5, a1]
  have z : (1000000000 : Int) + 1 = 1000000001 := rfl
  rw [z, a1]
  simp [WP_ok, D.top]
def NUM : List Nat := [110, 117, 109, 98, 101, 114]
def WRD : List Nat := [119, 111, 114, 100]
def ANY : List Nat := [97, 110, 121]
def kindB : Fk.D → Bool
  | .str z => NUM == z || (WRD == z || ANY == z)
  | _ => false
theorem o_in3t {w a b c : List Nat} {s : Fk.St} : cmpD .isin (.str w) (.tup [.str a, .str b, .str c]) s = .ok (.bl (a == w || (b == w || (c == w || false)))) s := by rcases w with _ | ⟨x, _ | ⟨y, w⟩⟩ <;> rfl
theorem o_in3l {w a b c : List Nat} {s : Fk.St} : cmpD .isin (.str w) (.lst [.str a, .str b, .str c]) s = .ok (.bl (a == w || (b == w || (c == w || false)))) s := by rcases w with _ | ⟨x, _ | ⟨y, w⟩⟩ <;> rfl
theorem o_in4t {w a b c d : List Nat} {s : Fk.St} : cmpD .isin (.str w) (.tup [.str a, .str b, .str c, .str d]) s = .ok (.bl (a == w || (b == w || (c == w || (d == w || false))))) s := by rcases w with _ | ⟨x, _ | ⟨y, w⟩⟩ <;> rfl
theorem o_in4l {w a b c d : List Nat} {s : Fk.St} : cmpD .isin (.str w) (.lst [.str a, .str b, .str c, .str d]) s = .ok (.bl (a == w || (b == w || (c == w || (d == w || false))))) s := by rcases w with _ | ⟨x, _ | ⟨y, w⟩⟩ <;> rfl
theorem e_kind (n : Nat) {d : Fk.D} (s : Fk.St) (h : kk d = true) : callF PP (n + 1) 8 [d] s = .ok (.bl (kindB d)) s := by
  refine eq_of_wp ?_
  rw [callF_eq (fn := fn8) rfl rfl, WP_back]
  show WS (exB _ fn8.body [some d] s) _ _
  simp -implicitDefEqProofs only [exB_cons, exB_nil, exS_expr, exS_set, exS_setSub, exS_fz, exS_ife, exS_ret, exS_pass, den_nop, den_c, den_v, den_bin, den_neg, den_cmp, den_chain, den_and, den_or, den_not, den_ite, den_tup, den_lst, den_sub, den_rev, den_callv, exS_raise, exS_tryR, den_sl, den_call, den_blt, den_meth, denL_nil, denL_cons, WS_seq, WS_toS, WS_nx, WS_rt, WS_asB, WS_ite, WP_bind, WP_ok, WP_asB, WP_ite, bindP, setAll, List.set_cons_zero, List.set_cons_succ, List.getElem?_cons_zero, List.getElem?_cons_succ, decide_true, decide_false, if_true, if_false, Bool.false_eq_true, Bool.not_true, Bool.not_false, isNop, partR, o_add, o_sub, o_lt, o_le, o_gt, o_ge, o_eqi, o_nei, o_eqs, o_nes, o_in, o_notin, o_lent, o_lenl, o_lenc, o_abs, o_min, o_max, o_tupl, o_tupt, o_sll, fin_f, fn8, o_isin h, isT_kk h]
  cases d <;> first | (cases h; done) | skip
  case str z =>
    have e1 : isT [] 2 (.str z) = true := rfl
    simp -implicitDefEqProofs only [exB_cons, exB_nil, exS_expr, exS_set, exS_setSub, exS_fz, exS_ife, exS_ret, exS_pass, den_nop, den_c, den_v, den_bin, den_neg, den_cmp, den_chain, den_and, den_or, den_not, den_ite, den_tup, den_lst, den_sub, den_rev, den_callv, exS_raise, exS_tryR, den_sl, den_call, den_blt, den_meth, denL_nil, denL_cons, WS_seq, WS_toS, WS_nx, WS_rt, WS_asB, WS_ite, WP_bind, WP_ok, WP_asB, WP_ite, bindP, setAll, List.set_cons_zero, List.set_cons_succ, List.getElem?_cons_zero, List.getElem?_cons_succ, decide_true, decide_false, if_true, if_false, Bool.false_eq_true, Bool.not_true, Bool.not_false, isNop, partR, o_add, o_sub, o_lt, o_le, o_gt, o_ge, o_eqi, o_nei, o_eqs, o_nes, o_in, o_notin, o_lent, o_lenl, o_lenc, o_abs, o_min, o_max, o_tupl, o_tupt, o_sll, fin_f, e1, o_in3t]
    simp [kindB, NUM, WRD, ANY, D.top]
  all_goals simp [isT, rd, kindB, D.top, WP_ok, WS_rt]
theorem e_true (n : Nat) {d : Fk.D} (s : Fk.St) (h : kk d = true) : callF PP (n + 1) 11 [d] s = .ok (.bl (isB true d)) s := by
  refine eq_of_wp ?_
  rw [callF_eq (fn := fn11) rfl rfl, WP_back]
  show WS (exB _ fn11.body [some d] s) _ _
  have e1 : cmpD .is_ d (.bl true) s = .ok (.bl (isB true d)) s := by cases d <;> first | (cases h; done) | rfl
  simp -implicitDefEqProofs only [exB_cons, exB_nil, exS_expr, exS_set, exS_setSub, exS_fz, exS_ife, exS_ret, exS_pass, den_nop, den_c, den_v, den_bin, den_neg, den_cmp, den_chain, den_and, den_or, den_not, den_ite, den_tup, den_lst, den_sub, den_rev, den_callv, exS_raise, exS_tryR, den_sl, den_call, den_blt, den_meth, denL_nil, denL_cons, WS_seq, WS_toS, WS_nx, WS_rt, WS_asB, WS_ite, WP_bind, WP_ok, WP_asB, WP_ite, bindP, setAll, List.set_cons_zero, List.set_cons_succ, List.getElem?_cons_zero, List.getElem?_cons_succ, decide_true, decide_false, if_true, if_false, Bool.false_eq_true, Bool.not_true, Bool.not_false, isNop, partR, o_add, o_sub, o_lt, o_le, o_gt, o_ge, o_eqi, o_nei, o_eqs, o_nes, o_in, o_notin, o_lent, o_lenl, o_lenc, o_abs, o_min, o_max, o_tupl, o_tupt, o_sll, fin_f, fn11, e1]
  simp [D.top]
def okP (d : Fk.D) : Bool := ok1 d && (match d with
  | .tup ds => ds.all okD
  | _ => true)
theorem okP_1 {d : Fk.D} (h : okP d = true) : ok1 d = true := by unfold okP at h; simp only [Bool.and_eq_true] at h; exact h.1
theorem okP_t {ds : List Fk.D} (h : okP (.tup ds) = true) : ∀ d ∈ ds, okD d = true := by
  unfold okP at h
  simp only [Bool.and_eq_true] at h
  exact List.all_eq_true.mp h.2
theorem okP_D {d : Fk.D} (h : okP d = true) : okD d = true := by
  cases d with
  | tup ds =>
    have h2 := okP_t h
    unfold okD
    rw [okP_1 h, Bool.true_and]
    exact List.all_eq_true.mpr fun x hx => okD_1 (h2 x hx)
  | _ => exact h
def COL : List Nat := [99, 111, 108, 117, 109, 110]
def NAM : List Nat := [110, 97, 109, 101]
def KND : List Nat := [107, 105, 110, 100]
def ELS : List Nat := [101, 108, 115, 101]
def SLT : List Nat := [115, 108, 111, 116]
def ROW : List Nat := [114, 111, 119]
def CEL : List Nat := [99, 101, 108, 108]
def TAB : List Nat := [116, 97, 98, 108, 101]
def one (p : Fk.D → Bool) : List Fk.D → Bool
  | [x] => p x
  | _ => false
def two (p q : Fk.D → Bool) : List Fk.D → Bool
  | [x, y] => p x && q y
  | _ => false
def rests (w : List Nat) (rest : List Fk.D) : Bool :=
  if (COL == w || (NAM == w || (KND == w || (ELS == w || false)))) = true then one isId rest
  else if (w == SLT) = true then one isName rest
  else if (w == ROW) = true then one (fun x => below x 1000000001) rest
  else if (w == CEL) = true then two (fun x => below x 1000000001) isId rest
  else (w == TAB) && rest.isEmpty
def isPlace : Fk.D → Bool
  | .tup (.str w :: t :: rest) => isName t && rests w rest
  | _ => false
theorem sub0 {a : Fk.D} {r : List Fk.D} {s : Fk.St} : subD (.tup (a :: r)) (.int 0) s = .ok a s := by simp [subD, rd, atI, ixN]
theorem sub1 {a b : Fk.D} {r : List Fk.D} {s : Fk.St} : subD (.tup (a :: b :: r)) (.int 1) s = .ok b s := by
  have h : (1 : Int) < ((a :: b :: r).length : Int) := by simp; omega
  simp only [subD, rd, atI, ixN]
  rw [if_pos (by decide), if_pos h]
  rfl
theorem bind_st {a b : Fk.D} {r : List Fk.D} {e0 e1 e2 e3 : Option Fk.D} : bindP (.st [1, 2] 3) (.tup (a :: b :: r)) [e0, e1, e2, e3] = some [e0, some a, some b, some (.lst r)] := by
  simp [bindP, setAll]
theorem set_st {cf : CF} {a b : Fk.D} {r : List Fk.D} {s : Fk.St} {e1 e2 e3 : Option Fk.D} : exS cf (.set (.st [1, 2] 3) (.v 0)) [some (.tup (a :: b :: r)), e1, e2, e3] s = .ok (.nx [some (.tup (a :: b :: r)), some a, some b, some (.lst r)]) s := by
  rw [exS_set, den_v]
  show (match bindP (.st [1, 2] 3) (.tup (a :: b :: r)) [some (.tup (a :: b :: r)), e1, e2, e3] with
    | some env1 => RS.ok (.nx env1) s
    | Option.none => .bad) = _
  rw [bind_st]
theorem len1 {r : List Fk.D} : ((r.length : Int) == 1) = decide (r.length = 1) := by
  by_cases c : r.length = 1
  · simp [c]
  · have : ((r.length : Int) == 1) = false := by rw [beq_eq_false_iff_ne]; omega
    simp [c, this]
theorem o_nil {r : List Fk.D} {s : Fk.St} : cmpD .eq (.lst r) (.lst []) s = .ok (.bl r.isEmpty) s := by
  cases r with
  | nil => rfl
  | cons a r =>
    show (if _ then R.ok (Fk.D.bl false) s else if lenNe (.lst (a :: r)) (.lst []) then R.ok (Fk.D.bl false) s else .bad) = _
    have : lenNe (.lst (a :: r)) (.lst []) = true := by simp [lenNe]
    rw [this]
    split <;> rfl
theorem isRow_len {r : List Fk.D} (p : Fk.D → Bool) (h : ¬ r.length = 1) : one p r = false := by
  match r, h with
  | [], _ => rfl
  | [_], h => simp at h
  | _ :: _ :: _, _ => rfl
theorem two_len {r : List Fk.D} (p q : Fk.D → Bool) (h : ¬ r.length = 2) : two p q r = false := by
  match r, h with
  | [], _ => rfl
  | [_], _ => rfl
  | [_, _], h => simp at h
  | _ :: _ :: _ :: _, _ => rfl
theorem lst0 {a : Fk.D} {r : List Fk.D} {s : Fk.St} : subD (.lst (a :: r)) (.int 0) s = .ok a s := by simp [subD, rd, atI, ixN]
theorem lst1 {a b : Fk.D} {s : Fk.St} : subD (.lst [a, b]) (.int 1) s = .ok b s := rfl
theorem len2 {r : List Fk.D} : ((r.length : Int) == 2) = decide (r.length = 2) := by
  by_cases c : r.length = 2
  · simp [c]
  · have : ((r.length : Int) == 2) = false := by rw [beq_eq_false_iff_ne]; omega
    simp [c, this]
theorem e_name' (n : Nat) {d : Fk.D} (s : Fk.St) (h : ok1 d = true) : callF PP (n + 2) 4 [d] s = .ok (.bl (isName d)) s := e_name (P := PP) (f := 4) (w := 3) rfl rfl n s h
theorem e_id' (n : Nat) {d : Fk.D} (s : Fk.St) (h : okD d = true) : callF PP (n + 4) 10 [d] s = .ok (.bl (isId d)) s :=
  e_id (P := PP) (f := 10) (r := 2) (hh := 7) (m := 4) (c := 9) (b := 1) (w := 0) (w2 := 3) rfl rfl rfl rfl rfl rfl rfl rfl n s h
theorem top0 {b : Bool} {s : Fk.St} : s.take (max s.length (Fk.D.bl b).top) = s := by simp [D.top]
/-- a call upon the one thing that is left -/
theorem one_call {n f : Nat} {p : Fk.D → Bool} {r : List Fk.D} {env : Fk.Env} {i : Nat} {s : Fk.St} {Q : Fk.D → Fk.St → Prop} (he : env[i]? = some (some (.lst r))) (hc : ∀ d ∈ r, callF PP n f [d] s = .ok (.bl (p d)) s) (hq : Q (.bl (one p r)) s) :
    WP (den (callF PP n) (.and (.cmp .eq (.blt .len false [.v i]) (.c (.int 1))) (.call f [.sub (.v i) (.c (.int 0))])) env s) Q := by
  simp -implicitDefEqProofs only [exB_cons, exB_nil, exS_expr, exS_set, exS_setSub, exS_fz, exS_ife, exS_ret, exS_pass, den_nop, den_c, den_v, den_bin, den_neg, den_cmp, den_chain, den_and, den_or, den_not, den_ite, den_tup, den_lst, den_sub, den_rev, den_callv, exS_raise, exS_tryR, den_sl, den_call, den_blt, den_meth, denL_nil, denL_cons, WS_seq, WS_toS, WS_nx, WS_rt, WS_asB, WS_ite, WP_bind, WP_ok, WP_asB, WP_ite, bindP, setAll, List.set_cons_zero, List.set_cons_succ, List.getElem?_cons_zero, List.getElem?_cons_succ, decide_true, decide_false, if_true, if_false, Bool.false_eq_true, Bool.not_true, Bool.not_false, isNop, partR, o_add, o_sub, o_lt, o_le, o_gt, o_ge, o_eqi, o_nei, o_eqs, o_nes, o_in, o_notin, o_lent, o_lenl, o_lenc, o_abs, o_min, o_max, o_tupl, o_tupt, o_sll, fin_f, he, len1]
  by_cases h : r.length = 1
  · match r, h with
    | [x], _ =>
      simp -implicitDefEqProofs only [exB_cons, exB_nil, exS_expr, exS_set, exS_setSub, exS_fz, exS_ife, exS_ret, exS_pass, den_nop, den_c, den_v, den_bin, den_neg, den_cmp, den_chain, den_and, den_or, den_not, den_ite, den_tup, den_lst, den_sub, den_rev, den_callv, exS_raise, exS_tryR, den_sl, den_call, den_blt, den_meth, denL_nil, denL_cons, WS_seq, WS_toS, WS_nx, WS_rt, WS_asB, WS_ite, WP_bind, WP_ok, WP_asB, WP_ite, bindP, setAll, List.set_cons_zero, List.set_cons_succ, List.getElem?_cons_zero, List.getElem?_cons_succ, decide_true, decide_false, if_true, if_false, Bool.false_eq_true, Bool.not_true, Bool.not_false, isNop, partR, o_add, o_sub, o_lt, o_le, o_gt, o_ge, o_eqi, o_nei, o_eqs, o_nes, o_in, o_notin, o_lent, o_lenl, o_lenc, o_abs, o_min, o_max, o_tupl, o_tupt, o_sll, fin_f, List.length_cons, List.length_nil, lst0]
      refine wp_of_eq (hc x (by simp)) ?_
      exact hq
  · simp -implicitDefEqProofs only [exB_cons, exB_nil, exS_expr, exS_set, exS_setSub, exS_fz, exS_ife, exS_ret, exS_pass, den_nop, den_c, den_v, den_bin, den_neg, den_cmp, den_chain, den_and, den_or, den_not, den_ite, den_tup, den_lst, den_sub, den_rev, den_callv, exS_raise, exS_tryR, den_sl, den_call, den_blt, den_meth, denL_nil, denL_cons, WS_seq, WS_toS, WS_nx, WS_rt, WS_asB, WS_ite, WP_bind, WP_ok, WP_asB, WP_ite, bindP, setAll, List.set_cons_zero, List.set_cons_succ, List.getElem?_cons_zero, List.getElem?_cons_succ, decide_true, decide_false, if_true, if_false, Bool.false_eq_true, Bool.not_true, Bool.not_false, isNop, partR, o_add, o_sub, o_lt, o_le, o_gt, o_ge, o_eqi, o_nei, o_eqs, o_nes, o_in, o_notin, o_lent, o_lenl, o_lenc, o_abs, o_min, o_max, o_tupl, o_tupt, o_sll, fin_f, h]
    rw [isRow_len p h] at hq
    exact hq
theorem two_call {n f g : Nat} {p q : Fk.D → Bool} {r : List Fk.D} {env : Fk.Env} {i : Nat} {s : Fk.St} {Q : Fk.D → Fk.St → Prop} (he : env[i]? = some (some (.lst r))) (hc : ∀ d ∈ r, callF PP n f [d] s = .ok (.bl (p d)) s) (hd : ∀ d ∈ r, callF PP n g [d] s = .ok (.bl (q d)) s) (hq : Q (.bl (two p q r)) s) :
    WP (den (callF PP n) (.and (.cmp .eq (.blt .len false [.v i]) (.c (.int 2))) (.and (.call f [.sub (.v i) (.c (.int 0))]) (.call g [.sub (.v i) (.c (.int 1))]))) env s) Q := by
  simp -implicitDefEqProofs only [exB_cons, exB_nil, exS_expr, exS_set, exS_setSub, exS_fz, exS_ife, exS_ret, exS_pass, den_nop, den_c, den_v, den_bin, den_neg, den_cmp, den_chain, den_and, den_or, den_not, den_ite, den_tup, den_lst, den_sub, den_rev, den_callv, exS_raise, exS_tryR, den_sl, den_call, den_blt, den_meth, denL_nil, denL_cons, WS_seq, WS_toS, WS_nx, WS_rt, WS_asB, WS_ite, WP_bind, WP_ok, WP_asB, WP_ite, bindP, setAll, List.set_cons_zero, List.set_cons_succ, List.getElem?_cons_zero, List.getElem?_cons_succ, decide_true, decide_false, if_true, if_false, Bool.false_eq_true, Bool.not_true, Bool.not_false, isNop, partR, o_add, o_sub, o_lt, o_le, o_gt, o_ge, o_eqi, o_nei, o_eqs, o_nes, o_in, o_notin, o_lent, o_lenl, o_lenc, o_abs, o_min, o_max, o_tupl, o_tupt, o_sll, fin_f, he, len2]
  by_cases h : r.length = 2
  · match r, h with
    | [x, y], _ =>
      simp -implicitDefEqProofs only [exB_cons, exB_nil, exS_expr, exS_set, exS_setSub, exS_fz, exS_ife, exS_ret, exS_pass, den_nop, den_c, den_v, den_bin, den_neg, den_cmp, den_chain, den_and, den_or, den_not, den_ite, den_tup, den_lst, den_sub, den_rev, den_callv, exS_raise, exS_tryR, den_sl, den_call, den_blt, den_meth, denL_nil, denL_cons, WS_seq, WS_toS, WS_nx, WS_rt, WS_asB, WS_ite, WP_bind, WP_ok, WP_asB, WP_ite, bindP, setAll, List.set_cons_zero, List.set_cons_succ, List.getElem?_cons_zero, List.getElem?_cons_succ, decide_true, decide_false, if_true, if_false, Bool.false_eq_true, Bool.not_true, Bool.not_false, isNop, partR, o_add, o_sub, o_lt, o_le, o_gt, o_ge, o_eqi, o_nei, o_eqs, o_nes, o_in, o_notin, o_lent, o_lenl, o_lenc, o_abs, o_min, o_max, o_tupl, o_tupt, o_sll, fin_f, List.length_cons, List.length_nil, lst0, hc x (by simp)]
      cases hx : p x
      · simpa [two, hx, WP_ok] using hq
      · simp -implicitDefEqProofs only [exB_cons, exB_nil, exS_expr, exS_set, exS_setSub, exS_fz, exS_ife, exS_ret, exS_pass, den_nop, den_c, den_v, den_bin, den_neg, den_cmp, den_chain, den_and, den_or, den_not, den_ite, den_tup, den_lst, den_sub, den_rev, den_callv, exS_raise, exS_tryR, den_sl, den_call, den_blt, den_meth, denL_nil, denL_cons, WS_seq, WS_toS, WS_nx, WS_rt, WS_asB, WS_ite, WP_bind, WP_ok, WP_asB, WP_ite, bindP, setAll, List.set_cons_zero, List.set_cons_succ, List.getElem?_cons_zero, List.getElem?_cons_succ, decide_true, decide_false, if_true, if_false, Bool.false_eq_true, Bool.not_true, Bool.not_false, isNop, partR, o_add, o_sub, o_lt, o_le, o_gt, o_ge, o_eqi, o_nei, o_eqs, o_nes, o_in, o_notin, o_lent, o_lenl, o_lenc, o_abs, o_min, o_max, o_tupl, o_tupt, o_sll, fin_f, lst1, hd y (by simp)]
        simpa [two, hx] using hq
  · simp -implicitDefEqProofs only [exB_cons, exB_nil, exS_expr, exS_set, exS_setSub, exS_fz, exS_ife, exS_ret, exS_pass, den_nop, den_c, den_v, den_bin, den_neg, den_cmp, den_chain, den_and, den_or, den_not, den_ite, den_tup, den_lst, den_sub, den_rev, den_callv, exS_raise, exS_tryR, den_sl, den_call, den_blt, den_meth, denL_nil, denL_cons, WS_seq, WS_toS, WS_nx, WS_rt, WS_asB, WS_ite, WP_bind, WP_ok, WP_asB, WP_ite, bindP, setAll, List.set_cons_zero, List.set_cons_succ, List.getElem?_cons_zero, List.getElem?_cons_succ, decide_true, decide_false, if_true, if_false, Bool.false_eq_true, Bool.not_true, Bool.not_false, isNop, partR, o_add, o_sub, o_lt, o_le, o_gt, o_ge, o_eqi, o_nei, o_eqs, o_nes, o_in, o_notin, o_lent, o_lenl, o_lenc, o_abs, o_min, o_max, o_tupl, o_tupt, o_sll, fin_f, h]
    rw [two_len p q h] at hq
    exact hq
theorem e_place (n : Nat) {d : Fk.D} (s : Fk.St) (h : okP d = true) : callF PP (n + 5) 12 [d] s = .ok (.bl (isPlace d)) s := by
  refine eq_of_wp ?_
  rw [callF_eq (fn := fn12) rfl rfl, WP_back]
  show WS (exB _ fn12.body [some d, none, none, none] s) _ _
  have hk := ok1_kk (okP_1 h)
  rw [fn12]
  rw [exB_cons]
  simp -implicitDefEqProofs only [exB_nil, exS_expr, exS_set, exS_setSub, exS_fz, exS_ife, exS_ret, exS_pass, den_nop, den_c, den_v, den_bin, den_neg, den_cmp, den_chain, den_and, den_or, den_not, den_ite, den_tup, den_lst, den_sub, den_rev, den_callv, exS_raise, exS_tryR, den_sl, den_call, den_blt, den_meth, denL_nil, denL_cons, WS_seq, WS_toS, WS_nx, WS_rt, WS_asB, WS_ite, WP_bind, WP_ok, WP_asB, WP_ite, bindP, setAll, List.set_cons_zero, List.set_cons_succ, List.getElem?_cons_zero, List.getElem?_cons_succ, decide_true, decide_false, if_true, if_false, Bool.false_eq_true, Bool.not_true, Bool.not_false, isNop, partR, o_add, o_sub, o_lt, o_le, o_gt, o_ge, o_eqi, o_nei, o_eqs, o_nes, o_in, o_notin, o_lent, o_lenl, o_lenc, o_abs, o_min, o_max, o_tupl, o_tupt, o_sll, fin_f, o_isin hk, isT_kk hk]
  cases d <;> first | (cases hk; done) | skip
  case tup ds =>
    have e1 : isT [] 3 (.tup ds) = true := rfl
    have hd := okP_t h
    simp -implicitDefEqProofs only [exB_nil, exS_expr, exS_set, exS_setSub, exS_fz, exS_ife, exS_ret, exS_pass, den_nop, den_c, den_v, den_bin, den_neg, den_cmp, den_chain, den_and, den_or, den_not, den_ite, den_tup, den_lst, den_sub, den_rev, den_callv, exS_raise, exS_tryR, den_sl, den_call, den_blt, den_meth, denL_nil, denL_cons, WS_seq, WS_toS, WS_nx, WS_rt, WS_asB, WS_ite, WP_bind, WP_ok, WP_asB, WP_ite, bindP, setAll, List.set_cons_zero, List.set_cons_succ, List.getElem?_cons_zero, List.getElem?_cons_succ, decide_true, decide_false, if_true, if_false, Bool.false_eq_true, Bool.not_true, Bool.not_false, isNop, partR, o_add, o_sub, o_lt, o_le, o_gt, o_ge, o_eqi, o_nei, o_eqs, o_nes, o_in, o_notin, o_lent, o_lenl, o_lenc, o_abs, o_min, o_max, o_tupl, o_tupt, o_sll, fin_f, e1]
    match ds, hd with
    | [], _ =>
      simp -implicitDefEqProofs only [exB_cons, exB_nil, exS_expr, exS_set, exS_setSub, exS_fz, exS_ife, exS_ret, exS_pass, den_nop, den_c, den_v, den_bin, den_neg, den_cmp, den_chain, den_and, den_or, den_not, den_ite, den_tup, den_lst, den_sub, den_rev, den_callv, exS_raise, exS_tryR, den_sl, den_call, den_blt, den_meth, denL_nil, denL_cons, WS_seq, WS_toS, WS_nx, WS_rt, WS_asB, WS_ite, WP_bind, WP_ok, WP_asB, WP_ite, bindP, setAll, List.set_cons_zero, List.set_cons_succ, List.getElem?_cons_zero, List.getElem?_cons_succ, decide_true, decide_false, if_true, if_false, Bool.false_eq_true, Bool.not_true, Bool.not_false, isNop, partR, o_add, o_sub, o_lt, o_le, o_gt, o_ge, o_eqi, o_nei, o_eqs, o_nes, o_in, o_notin, o_lent, o_lenl, o_lenc, o_abs, o_min, o_max, o_tupl, o_tupt, o_sll, fin_f, List.length_nil]
      simp [isPlace, WS_rt, D.top]
    | [x], _ =>
      simp -implicitDefEqProofs only [exB_cons, exB_nil, exS_expr, exS_set, exS_setSub, exS_fz, exS_ife, exS_ret, exS_pass, den_nop, den_c, den_v, den_bin, den_neg, den_cmp, den_chain, den_and, den_or, den_not, den_ite, den_tup, den_lst, den_sub, den_rev, den_callv, exS_raise, exS_tryR, den_sl, den_call, den_blt, den_meth, denL_nil, denL_cons, WS_seq, WS_toS, WS_nx, WS_rt, WS_asB, WS_ite, WP_bind, WP_ok, WP_asB, WP_ite, bindP, setAll, List.set_cons_zero, List.set_cons_succ, List.getElem?_cons_zero, List.getElem?_cons_succ, decide_true, decide_false, if_true, if_false, Bool.false_eq_true, Bool.not_true, Bool.not_false, isNop, partR, o_add, o_sub, o_lt, o_le, o_gt, o_ge, o_eqi, o_nei, o_eqs, o_nes, o_in, o_notin, o_lent, o_lenl, o_lenc, o_abs, o_min, o_max, o_tupl, o_tupt, o_sll, fin_f, List.length_cons, List.length_nil]
      simp [isPlace, WS_rt, D.top]
    | a :: b :: r, hd =>
      have hlen : decide (((a :: b :: r).length : Int) < 2) = false := by
        rw [decide_eq_false_iff_not]
        simp; omega
      have ha := hd a (by simp)
      have hb := hd b (by simp)
      have hka := ok1_kk (okD_1 ha)
      have hr : ∀ x ∈ r, okD x = true := fun x hx => hd x (by simp [hx])
      have a1 : callF PP (n + 4) 4 [b] s = .ok (.bl (isName b)) s := e_name' (n + 2) s (okD_1 hb)
      simp -implicitDefEqProofs only [exB_nil, exS_expr, exS_set, exS_setSub, exS_fz, exS_ife, exS_ret, exS_pass, den_nop, den_c, den_v, den_bin, den_neg, den_cmp, den_chain, den_and, den_or, den_not, den_ite, den_tup, den_lst, den_sub, den_rev, den_callv, exS_raise, exS_tryR, den_sl, den_call, den_blt, den_meth, denL_nil, denL_cons, WS_seq, WS_toS, WS_nx, WS_rt, WS_asB, WS_ite, WP_bind, WP_ok, WP_asB, WP_ite, bindP, setAll, List.set_cons_zero, List.set_cons_succ, List.getElem?_cons_zero, List.getElem?_cons_succ, decide_true, decide_false, if_true, if_false, Bool.false_eq_true, Bool.not_true, Bool.not_false, isNop, partR, o_add, o_sub, o_lt, o_le, o_gt, o_ge, o_eqi, o_nei, o_eqs, o_nes, o_in, o_notin, o_lent, o_lenl, o_lenc, o_abs, o_min, o_max, o_tupl, o_tupt, o_sll, fin_f, hlen, sub0, o_isin hka, isT_kk hka]
      cases a <;> first | (cases hka; done) | skip
      case str w =>
        have e2 : isT [] 2 (.str w) = true := rfl
        simp -implicitDefEqProofs only [exB_nil, exS_expr, exS_set, exS_setSub, exS_fz, exS_ife, exS_ret, exS_pass, den_nop, den_c, den_v, den_bin, den_neg, den_cmp, den_chain, den_and, den_or, den_not, den_ite, den_tup, den_lst, den_sub, den_rev, den_callv, exS_raise, exS_tryR, den_sl, den_call, den_blt, den_meth, denL_nil, denL_cons, WS_seq, WS_toS, WS_nx, WS_rt, WS_asB, WS_ite, WP_bind, WP_ok, WP_asB, WP_ite, bindP, setAll, List.set_cons_zero, List.set_cons_succ, List.getElem?_cons_zero, List.getElem?_cons_succ, decide_true, decide_false, if_true, if_false, Bool.false_eq_true, Bool.not_true, Bool.not_false, isNop, partR, o_add, o_sub, o_lt, o_le, o_gt, o_ge, o_eqi, o_nei, o_eqs, o_nes, o_in, o_notin, o_lent, o_lenl, o_lenc, o_abs, o_min, o_max, o_tupl, o_tupt, o_sll, fin_f, e2, sub1, a1]
        cases hn : isName b
        · simp -implicitDefEqProofs only [exB_cons, exB_nil, exS_expr, exS_set, exS_setSub, exS_fz, exS_ife, exS_ret, exS_pass, den_nop, den_c, den_v, den_bin, den_neg, den_cmp, den_chain, den_and, den_or, den_not, den_ite, den_tup, den_lst, den_sub, den_rev, den_callv, exS_raise, exS_tryR, den_sl, den_call, den_blt, den_meth, denL_nil, denL_cons, WS_seq, WS_toS, WS_nx, WS_rt, WS_asB, WS_ite, WP_bind, WP_ok, WP_asB, WP_ite, bindP, setAll, List.set_cons_zero, List.set_cons_succ, List.getElem?_cons_zero, List.getElem?_cons_succ, decide_true, decide_false, if_true, if_false, Bool.false_eq_true, Bool.not_true, Bool.not_false, isNop, partR, o_add, o_sub, o_lt, o_le, o_gt, o_ge, o_eqi, o_nei, o_eqs, o_nes, o_in, o_notin, o_lent, o_lenl, o_lenc, o_abs, o_min, o_max, o_tupl, o_tupt, o_sll, fin_f]
          simp [isPlace, hn, WS_rt, D.top]
        · have ip : isPlace (.tup (.str w :: b :: r)) = rests w r := by simp [isPlace, hn]
          have qk : ∀ x ∈ r, callF PP (n + 4) 5 [x] s = .ok (.bl (below x 1000000001)) s := fun x hx => e_key (n + 1) s (ok1_kk (okD_1 (hr x hx)))
          have qi : ∀ x ∈ r, callF PP (n + 4) 10 [x] s = .ok (.bl (isId x)) s := fun x hx => e_id' n s (hr x hx)
          have qn : ∀ x ∈ r, callF PP (n + 4) 4 [x] s = .ok (.bl (isName x)) s := fun x hx => e_name' (n + 2) s (okD_1 (hr x hx))
          rw [ip]
          simp -implicitDefEqProofs only [exB_nil, exS_expr, exS_set, exS_setSub, exS_fz, exS_ife, exS_ret, exS_pass, den_nop, den_c, den_v, den_bin, den_neg, den_cmp, den_chain, den_and, den_or, den_not, den_ite, den_tup, den_lst, den_sub, den_rev, den_callv, exS_raise, exS_tryR, den_sl, den_call, den_blt, den_meth, denL_nil, denL_cons, WS_seq, WS_toS, WS_nx, WS_rt, WS_asB, WS_ite, WP_bind, WP_ok, WP_asB, WP_ite, bindP, setAll, List.set_cons_zero, List.set_cons_succ, List.getElem?_cons_zero, List.getElem?_cons_succ, decide_true, decide_false, if_true, if_false, Bool.false_eq_true, Bool.not_true, Bool.not_false, isNop, partR, o_add, o_sub, o_lt, o_le, o_gt, o_ge, o_eqi, o_nei, o_eqs, o_nes, o_in, o_notin, o_lent, o_lenl, o_lenc, o_abs, o_min, o_max, o_tupl, o_tupt, o_sll, fin_f]
          rw [exB_cons, set_st]
          simp -implicitDefEqProofs only [exB_nil, exS_expr, exS_set, exS_setSub, exS_fz, exS_ife, exS_ret, exS_pass, den_nop, den_c, den_v, den_bin, den_neg, den_cmp, den_chain, den_and, den_or, den_not, den_ite, den_tup, den_lst, den_sub, den_rev, den_callv, exS_raise, exS_tryR, den_sl, den_call, den_blt, den_meth, denL_nil, denL_cons, WS_seq, WS_toS, WS_nx, WS_rt, WS_asB, WS_ite, WP_bind, WP_ok, WP_asB, WP_ite, bindP, setAll, List.set_cons_zero, List.set_cons_succ, List.getElem?_cons_zero, List.getElem?_cons_succ, decide_true, decide_false, if_true, if_false, Bool.false_eq_true, Bool.not_true, Bool.not_false, isNop, partR, o_add, o_sub, o_lt, o_le, o_gt, o_ge, o_eqi, o_nei, o_eqs, o_nes, o_in, o_notin, o_lent, o_lenl, o_lenc, o_abs, o_min, o_max, o_tupl, o_tupt, o_sll, fin_f]
          rw [exB_cons]
          simp -implicitDefEqProofs only [exB_nil, exS_expr, exS_set, exS_setSub, exS_fz, exS_ife, exS_ret, exS_pass, den_nop, den_c, den_v, den_bin, den_neg, den_cmp, den_chain, den_and, den_or, den_not, den_ite, den_tup, den_lst, den_sub, den_rev, den_callv, exS_raise, exS_tryR, den_sl, den_call, den_blt, den_meth, denL_nil, denL_cons, WS_seq, WS_toS, WS_nx, WS_rt, WS_asB, WS_ite, WP_bind, WP_ok, WP_asB, WP_ite, bindP, setAll, List.set_cons_zero, List.set_cons_succ, List.getElem?_cons_zero, List.getElem?_cons_succ, decide_true, decide_false, if_true, if_false, Bool.false_eq_true, Bool.not_true, Bool.not_false, isNop, partR, o_add, o_sub, o_lt, o_le, o_gt, o_ge, o_eqi, o_nei, o_eqs, o_nes, o_in, o_notin, o_lent, o_lenl, o_lenc, o_abs, o_min, o_max, o_tupl, o_tupt, o_sll, fin_f, o_in4t]
          unfold rests
          by_cases c1 : (COL == w || (NAM == w || (KND == w || (ELS == w || false)))) = true
          · rw [if_pos c1, if_pos (show ([99, 111, 108, 117, 109, 110] == w || ([110, 97, 109, 101] == w || ([107, 105, 110, 100] == w || ([101, 108, 115, 101] == w || false)))) = true from c1)]
            rw [exB_cons, exS_ret, WS_seq, WS_toS]
            exact one_call rfl qi ⟨rfl, top0⟩
          · rw [if_neg c1, if_neg (show ¬ ([99, 111, 108, 117, 109, 110] == w || ([110, 97, 109, 101] == w || ([107, 105, 110, 100] == w || ([101, 108, 115, 101] == w || false)))) = true from c1)]
            (try simp -implicitDefEqProofs only [exB_nil, exS_expr, exS_set, exS_setSub, exS_fz, exS_ife, exS_ret, exS_pass, den_nop, den_c, den_v, den_bin, den_neg, den_cmp, den_chain, den_and, den_or, den_not, den_ite, den_tup, den_lst, den_sub, den_rev, den_callv, exS_raise, exS_tryR, den_sl, den_call, den_blt, den_meth, denL_nil, denL_cons, WS_seq, WS_toS, WS_nx, WS_rt, WS_asB, WS_ite, WP_bind, WP_ok, WP_asB, WP_ite, bindP, setAll, List.set_cons_zero, List.set_cons_succ, List.getElem?_cons_zero, List.getElem?_cons_succ, decide_true, decide_false, if_true, if_false, Bool.false_eq_true, Bool.not_true, Bool.not_false, isNop, partR, o_add, o_sub, o_lt, o_le, o_gt, o_ge, o_eqi, o_nei, o_eqs, o_nes, o_in, o_notin, o_lent, o_lenl, o_lenc, o_abs, o_min, o_max, o_tupl, o_tupt, o_sll, fin_f])
            rw [exB_cons]
            (try simp -implicitDefEqProofs only [exB_nil, exS_expr, exS_set, exS_setSub, exS_fz, exS_ife, exS_ret, exS_pass, den_nop, den_c, den_v, den_bin, den_neg, den_cmp, den_chain, den_and, den_or, den_not, den_ite, den_tup, den_lst, den_sub, den_rev, den_callv, exS_raise, exS_tryR, den_sl, den_call, den_blt, den_meth, denL_nil, denL_cons, WS_seq, WS_toS, WS_nx, WS_rt, WS_asB, WS_ite, WP_bind, WP_ok, WP_asB, WP_ite, bindP, setAll, List.set_cons_zero, List.set_cons_succ, List.getElem?_cons_zero, List.getElem?_cons_succ, decide_true, decide_false, if_true, if_false, Bool.false_eq_true, Bool.not_true, Bool.not_false, isNop, partR, o_add, o_sub, o_lt, o_le, o_gt, o_ge, o_eqi, o_nei, o_eqs, o_nes, o_in, o_notin, o_lent, o_lenl, o_lenc, o_abs, o_min, o_max, o_tupl, o_tupt, o_sll, fin_f])
            by_cases c2 : (w == SLT) = true
            · rw [if_pos c2, if_pos (show (w == [115, 108, 111, 116]) = true from c2)]
              rw [exB_cons, exS_ret, WS_seq, WS_toS]
              exact one_call rfl qn ⟨rfl, top0⟩
            · rw [if_neg c2, if_neg (show ¬ (w == [115, 108, 111, 116]) = true from c2)]
              (try simp -implicitDefEqProofs only [exB_nil, exS_expr, exS_set, exS_setSub, exS_fz, exS_ife, exS_ret, exS_pass, den_nop, den_c, den_v, den_bin, den_neg, den_cmp, den_chain, den_and, den_or, den_not, den_ite, den_tup, den_lst, den_sub, den_rev, den_callv, exS_raise, exS_tryR, den_sl, den_call, den_blt, den_meth, denL_nil, denL_cons, WS_seq, WS_toS, WS_nx, WS_rt, WS_asB, WS_ite, WP_bind, WP_ok, WP_asB, WP_ite, bindP, setAll, List.set_cons_zero, List.set_cons_succ, List.getElem?_cons_zero, List.getElem?_cons_succ, decide_true, decide_false, if_true, if_false, Bool.false_eq_true, Bool.not_true, Bool.not_false, isNop, partR, o_add, o_sub, o_lt, o_le, o_gt, o_ge, o_eqi, o_nei, o_eqs, o_nes, o_in, o_notin, o_lent, o_lenl, o_lenc, o_abs, o_min, o_max, o_tupl, o_tupt, o_sll, fin_f])
              rw [exB_cons]
              (try simp -implicitDefEqProofs only [exB_nil, exS_expr, exS_set, exS_setSub, exS_fz, exS_ife, exS_ret, exS_pass, den_nop, den_c, den_v, den_bin, den_neg, den_cmp, den_chain, den_and, den_or, den_not, den_ite, den_tup, den_lst, den_sub, den_rev, den_callv, exS_raise, exS_tryR, den_sl, den_call, den_blt, den_meth, denL_nil, denL_cons, WS_seq, WS_toS, WS_nx, WS_rt, WS_asB, WS_ite, WP_bind, WP_ok, WP_asB, WP_ite, bindP, setAll, List.set_cons_zero, List.set_cons_succ, List.getElem?_cons_zero, List.getElem?_cons_succ, decide_true, decide_false, if_true, if_false, Bool.false_eq_true, Bool.not_true, Bool.not_false, isNop, partR, o_add, o_sub, o_lt, o_le, o_gt, o_ge, o_eqi, o_nei, o_eqs, o_nes, o_in, o_notin, o_lent, o_lenl, o_lenc, o_abs, o_min, o_max, o_tupl, o_tupt, o_sll, fin_f])
              by_cases c3 : (w == ROW) = true
              · rw [if_pos c3, if_pos (show (w == [114, 111, 119]) = true from c3)]
                rw [exB_cons, exS_ret, WS_seq, WS_toS]
                exact one_call (p := fun x => below x 1000000001) rfl qk ⟨rfl, top0⟩
              · rw [if_neg c3, if_neg (show ¬ (w == [114, 111, 119]) = true from c3)]
                (try simp -implicitDefEqProofs only [exB_nil, exS_expr, exS_set, exS_setSub, exS_fz, exS_ife, exS_ret, exS_pass, den_nop, den_c, den_v, den_bin, den_neg, den_cmp, den_chain, den_and, den_or, den_not, den_ite, den_tup, den_lst, den_sub, den_rev, den_callv, exS_raise, exS_tryR, den_sl, den_call, den_blt, den_meth, denL_nil, denL_cons, WS_seq, WS_toS, WS_nx, WS_rt, WS_asB, WS_ite, WP_bind, WP_ok, WP_asB, WP_ite, bindP, setAll, List.set_cons_zero, List.set_cons_succ, List.getElem?_cons_zero, List.getElem?_cons_succ, decide_true, decide_false, if_true, if_false, Bool.false_eq_true, Bool.not_true, Bool.not_false, isNop, partR, o_add, o_sub, o_lt, o_le, o_gt, o_ge, o_eqi, o_nei, o_eqs, o_nes, o_in, o_notin, o_lent, o_lenl, o_lenc, o_abs, o_min, o_max, o_tupl, o_tupt, o_sll, fin_f])
                rw [exB_cons]
                (try simp -implicitDefEqProofs only [exB_nil, exS_expr, exS_set, exS_setSub, exS_fz, exS_ife, exS_ret, exS_pass, den_nop, den_c, den_v, den_bin, den_neg, den_cmp, den_chain, den_and, den_or, den_not, den_ite, den_tup, den_lst, den_sub, den_rev, den_callv, exS_raise, exS_tryR, den_sl, den_call, den_blt, den_meth, denL_nil, denL_cons, WS_seq, WS_toS, WS_nx, WS_rt, WS_asB, WS_ite, WP_bind, WP_ok, WP_asB, WP_ite, bindP, setAll, List.set_cons_zero, List.set_cons_succ, List.getElem?_cons_zero, List.getElem?_cons_succ, decide_true, decide_false, if_true, if_false, Bool.false_eq_true, Bool.not_true, Bool.not_false, isNop, partR, o_add, o_sub, o_lt, o_le, o_gt, o_ge, o_eqi, o_nei, o_eqs, o_nes, o_in, o_notin, o_lent, o_lenl, o_lenc, o_abs, o_min, o_max, o_tupl, o_tupt, o_sll, fin_f])
                by_cases c4 : (w == CEL) = true
                · rw [if_pos c4, if_pos (show (w == [99, 101, 108, 108]) = true from c4)]
                  rw [exB_cons, exS_ret, WS_seq, WS_toS]
                  exact two_call (p := fun x => below x 1000000001) rfl qk qi ⟨rfl, top0⟩
                · rw [if_neg c4, if_neg (show ¬ (w == [99, 101, 108, 108]) = true from c4)]
                  simp -implicitDefEqProofs only [exB_cons, exB_nil, exS_expr, exS_set, exS_setSub, exS_fz, exS_ife, exS_ret, exS_pass, den_nop, den_c, den_v, den_bin, den_neg, den_cmp, den_chain, den_and, den_or, den_not, den_ite, den_tup, den_lst, den_sub, den_rev, den_callv, exS_raise, exS_tryR, den_sl, den_call, den_blt, den_meth, denL_nil, denL_cons, WS_seq, WS_toS, WS_nx, WS_rt, WS_asB, WS_ite, WP_bind, WP_ok, WP_asB, WP_ite, bindP, setAll, List.set_cons_zero, List.set_cons_succ, List.getElem?_cons_zero, List.getElem?_cons_succ, decide_true, decide_false, if_true, if_false, Bool.false_eq_true, Bool.not_true, Bool.not_false, isNop, partR, o_add, o_sub, o_lt, o_le, o_gt, o_ge, o_eqi, o_nei, o_eqs, o_nes, o_in, o_notin, o_lent, o_lenl, o_lenc, o_abs, o_min, o_max, o_tupl, o_tupt, o_sll, fin_f, o_nil]
                  cases c5 : (w == TAB)
                  · have c5' : (w == [116, 97, 98, 108, 101]) = false := c5
                    rw [c5']
                    exact ⟨rfl, top0⟩
                  · have c5' : (w == [116, 97, 98, 108, 101]) = true := c5
                    rw [c5']
                    exact ⟨rfl, top0⟩
      all_goals (simp -implicitDefEqProofs only [exB_cons, exB_nil, exS_expr, exS_set, exS_setSub, exS_fz, exS_ife, exS_ret, exS_pass, den_nop, den_c, den_v, den_bin, den_neg, den_cmp, den_chain, den_and, den_or, den_not, den_ite, den_tup, den_lst, den_sub, den_rev, den_callv, exS_raise, exS_tryR, den_sl, den_call, den_blt, den_meth, denL_nil, denL_cons, WS_seq, WS_toS, WS_nx, WS_rt, WS_asB, WS_ite, WP_bind, WP_ok, WP_asB, WP_ite, bindP, setAll, List.set_cons_zero, List.set_cons_succ, List.getElem?_cons_zero, List.getElem?_cons_succ, decide_true, decide_false, if_true, if_false, Bool.false_eq_true, Bool.not_true, Bool.not_false, isNop, partR, o_add, o_sub, o_lt, o_le, o_gt, o_ge, o_eqi, o_nei, o_eqs, o_nes, o_in, o_notin, o_lent, o_lenl, o_lenc, o_abs, o_min, o_max, o_tupl, o_tupt, o_sll, fin_f]; simp [isT, rd, isPlace, D.top, WS_rt])
  all_goals (simp -implicitDefEqProofs only [exB_cons, exB_nil, exS_expr, exS_set, exS_setSub, exS_fz, exS_ife, exS_ret, exS_pass, den_nop, den_c, den_v, den_bin, den_neg, den_cmp, den_chain, den_and, den_or, den_not, den_ite, den_tup, den_lst, den_sub, den_rev, den_callv, exS_raise, exS_tryR, den_sl, den_call, den_blt, den_meth, denL_nil, denL_cons, WS_seq, WS_toS, WS_nx, WS_rt, WS_asB, WS_ite, WP_bind, WP_ok, WP_asB, WP_ite, bindP, setAll, List.set_cons_zero, List.set_cons_succ, List.getElem?_cons_zero, List.getElem?_cons_succ, decide_true, decide_false, if_true, if_false, Bool.false_eq_true, Bool.not_true, Bool.not_false, isNop, partR, o_add, o_sub, o_lt, o_le, o_gt, o_ge, o_eqi, o_nei, o_eqs, o_nes, o_in, o_notin, o_lent, o_lenl, o_lenc, o_abs, o_min, o_max, o_tupl, o_tupt, o_sll, fin_f]; simp [isT, rd, isPlace, D.top, WP_ok, WS_rt])
end Lw_k03

set_option Elab.async false
set_option linter.all false
set_option autoImplicit false
set_option maxRecDepth 100000
set_option maxHeartbeats 4000000
namespace Lw_k03
open Fk L3
theorem e_lwhole (n : Nat) {d : Fk.D} (s : Fk.St) (h : kk d = true) : callF PP (n + 1) 19 [d] s = .ok (.bl (isW d)) s := e_whole (P := PP) (f := 19) rfl n s h
theorem e_lname (n : Nat) {d : Fk.D} (s : Fk.St) (h : ok1 d = true) : callF PP (n + 1) 27 [d] s = .ok (.bl (isName d)) s := by
  refine eq_of_wp ?_
  rw [callF_eq (fn := fn27) rfl rfl, WP_back]
  show WS (exB _ fn27.body [some d, none] s) _ _
  have hk := ok1_kk h
  simp -implicitDefEqProofs only [exB_cons, exB_nil, exS_expr, exS_set, exS_setSub, exS_fz, exS_ife, exS_ret, exS_pass, den_nop, den_c, den_v, den_bin, den_neg, den_cmp, den_chain, den_and, den_or, den_not, den_ite, den_tup, den_lst, den_sub, den_rev, den_callv, exS_raise, exS_tryR, den_sl, den_call, den_blt, den_meth, denL_nil, denL_cons, WS_seq, WS_toS, WS_nx, WS_rt, WS_asB, WS_ite, WP_bind, WP_ok, WP_asB, WP_ite, bindP, setAll, List.set_cons_zero, List.set_cons_succ, List.getElem?_cons_zero, List.getElem?_cons_succ, decide_true, decide_false, if_true, if_false, Bool.false_eq_true, Bool.not_true, Bool.not_false, isNop, partR, o_add, o_sub, o_lt, o_le, o_gt, o_ge, o_eqi, o_nei, o_eqs, o_nes, o_in, o_notin, o_lent, o_lenl, o_lenc, o_abs, o_min, o_max, o_tupl, o_tupt, o_sll, fin_f, fn27, o_isin hk, isT_kk hk]
  cases d <;> first | (cases hk; done) | skip
  case str z =>
    have hz := ok1_str h
    have e1 : isT [] 2 (.str z) = true := rfl
    simp -implicitDefEqProofs only [exB_cons, exB_nil, exS_expr, exS_set, exS_setSub, exS_fz, exS_ife, exS_ret, exS_pass, den_nop, den_c, den_v, den_bin, den_neg, den_cmp, den_chain, den_and, den_or, den_not, den_ite, den_tup, den_lst, den_sub, den_rev, den_callv, exS_raise, exS_tryR, den_sl, den_call, den_blt, den_meth, denL_nil, denL_cons, WS_seq, WS_toS, WS_nx, WS_rt, WS_asB, WS_ite, WP_bind, WP_ok, WP_asB, WP_ite, bindP, setAll, List.set_cons_zero, List.set_cons_succ, List.getElem?_cons_zero, List.getElem?_cons_succ, decide_true, decide_false, if_true, if_false, Bool.false_eq_true, Bool.not_true, Bool.not_false, isNop, partR, o_add, o_sub, o_lt, o_le, o_gt, o_ge, o_eqi, o_nei, o_eqs, o_nes, o_in, o_notin, o_lent, o_lenl, o_lenc, o_abs, o_min, o_max, o_tupl, o_tupt, o_sll, fin_f, e1, o_lens hz]
    cases c0 : (z == KEY)
    · have c0' : (z == [107, 101, 121]) = false := c0
      simp -implicitDefEqProofs only [exB_cons, exB_nil, exS_expr, exS_set, exS_setSub, exS_fz, exS_ife, exS_ret, exS_pass, den_nop, den_c, den_v, den_bin, den_neg, den_cmp, den_chain, den_and, den_or, den_not, den_ite, den_tup, den_lst, den_sub, den_rev, den_callv, exS_raise, exS_tryR, den_sl, den_call, den_blt, den_meth, denL_nil, denL_cons, WS_seq, WS_toS, WS_nx, WS_rt, WS_asB, WS_ite, WP_bind, WP_ok, WP_asB, WP_ite, bindP, setAll, List.set_cons_zero, List.set_cons_succ, List.getElem?_cons_zero, List.getElem?_cons_succ, decide_true, decide_false, if_true, if_false, Bool.false_eq_true, Bool.not_true, Bool.not_false, isNop, partR, o_add, o_sub, o_lt, o_le, o_gt, o_ge, o_eqi, o_nei, o_eqs, o_nes, o_in, o_notin, o_lent, o_lenl, o_lenc, o_abs, o_min, o_max, o_tupl, o_tupt, o_sll, fin_f, c0']
      by_cases c1 : (0 : Int) < z.length
      · simp -implicitDefEqProofs only [exB_cons, exB_nil, exS_expr, exS_set, exS_setSub, exS_fz, exS_ife, exS_ret, exS_pass, den_nop, den_c, den_v, den_bin, den_neg, den_cmp, den_chain, den_and, den_or, den_not, den_ite, den_tup, den_lst, den_sub, den_rev, den_callv, exS_raise, exS_tryR, den_sl, den_call, den_blt, den_meth, denL_nil, denL_cons, WS_seq, WS_toS, WS_nx, WS_rt, WS_asB, WS_ite, WP_bind, WP_ok, WP_asB, WP_ite, bindP, setAll, List.set_cons_zero, List.set_cons_succ, List.getElem?_cons_zero, List.getElem?_cons_succ, decide_true, decide_false, if_true, if_false, Bool.false_eq_true, Bool.not_true, Bool.not_false, isNop, partR, o_add, o_sub, o_lt, o_le, o_gt, o_ge, o_eqi, o_nei, o_eqs, o_nes, o_in, o_notin, o_lent, o_lenl, o_lenc, o_abs, o_min, o_max, o_tupl, o_tupt, o_sll, fin_f, c1]
        by_cases c2 : (z.length : Int) < 9
        · simp -implicitDefEqProofs only [exB_cons, exB_nil, exS_expr, exS_set, exS_setSub, exS_fz, exS_ife, exS_ret, exS_pass, den_nop, den_c, den_v, den_bin, den_neg, den_cmp, den_chain, den_and, den_or, den_not, den_ite, den_tup, den_lst, den_sub, den_rev, den_callv, exS_raise, exS_tryR, den_sl, den_call, den_blt, den_meth, denL_nil, denL_cons, WS_seq, WS_toS, WS_nx, WS_rt, WS_asB, WS_ite, WP_bind, WP_ok, WP_asB, WP_ite, bindP, setAll, List.set_cons_zero, List.set_cons_succ, List.getElem?_cons_zero, List.getElem?_cons_succ, decide_true, decide_false, if_true, if_false, Bool.false_eq_true, Bool.not_true, Bool.not_false, isNop, partR, o_add, o_sub, o_lt, o_le, o_gt, o_ge, o_eqi, o_nei, o_eqs, o_nes, o_in, o_notin, o_lent, o_lenl, o_lenc, o_abs, o_min, o_max, o_tupl, o_tupt, o_sll, fin_f, c2, den_lc, it_str hz]
          refine wp_of_eq (lc_map (g := fun c => if !LS.contains c then some (chD c) else Option.none) fun c hc => ?_) ?_
          · refine eq_of_wp ?_
            simp -implicitDefEqProofs only [exB_cons, exB_nil, exS_expr, exS_set, exS_setSub, exS_fz, exS_ife, exS_ret, exS_pass, den_nop, den_c, den_v, den_bin, den_neg, den_cmp, den_chain, den_and, den_or, den_not, den_ite, den_tup, den_lst, den_sub, den_rev, den_callv, exS_raise, exS_tryR, den_sl, den_call, den_blt, den_meth, denL_nil, denL_cons, WS_seq, WS_toS, WS_nx, WS_rt, WS_asB, WS_ite, WP_bind, WP_ok, WP_asB, WP_ite, bindP, setAll, List.set_cons_zero, List.set_cons_succ, List.getElem?_cons_zero, List.getElem?_cons_succ, decide_true, decide_false, if_true, if_false, Bool.false_eq_true, Bool.not_true, Bool.not_false, isNop, partR, o_add, o_sub, o_lt, o_le, o_gt, o_ge, o_eqi, o_nei, o_eqs, o_nes, o_in, o_notin, o_lent, o_lenl, o_lenc, o_abs, o_min, o_max, o_tupl, o_tupt, o_sll, fin_f, chD, Pat.slots, Fk.wipe, WP_noErr]
            show if (!LS.contains c) = true then _ else _
            cases hh : LS.contains c <;> simp [hh, WP_ok]
          · rw [fm_if, List.nil_append]
            simp -implicitDefEqProofs only [exB_cons, exB_nil, exS_expr, exS_set, exS_setSub, exS_fz, exS_ife, exS_ret, exS_pass, den_nop, den_c, den_v, den_bin, den_neg, den_cmp, den_chain, den_and, den_or, den_not, den_ite, den_tup, den_lst, den_sub, den_rev, den_callv, exS_raise, exS_tryR, den_sl, den_call, den_blt, den_meth, denL_nil, denL_cons, WS_seq, WS_toS, WS_nx, WS_rt, WS_asB, WS_ite, WP_bind, WP_ok, WP_asB, WP_ite, bindP, setAll, List.set_cons_zero, List.set_cons_succ, List.getElem?_cons_zero, List.getElem?_cons_succ, decide_true, decide_false, if_true, if_false, Bool.false_eq_true, Bool.not_true, Bool.not_false, isNop, partR, o_add, o_sub, o_lt, o_le, o_gt, o_ge, o_eqi, o_nei, o_eqs, o_nes, o_in, o_notin, o_lent, o_lenl, o_lenc, o_abs, o_min, o_max, o_tupl, o_tupt, o_sll, fin_f, o_chnil, filt_nil]
            have a1 : 1 ≤ z.length := by omega
            have a2 : z.length ≤ 8 := by omega
            simp [isName, isWord, a1, a2, c0, D.top]
        · simp -implicitDefEqProofs only [exB_cons, exB_nil, exS_expr, exS_set, exS_setSub, exS_fz, exS_ife, exS_ret, exS_pass, den_nop, den_c, den_v, den_bin, den_neg, den_cmp, den_chain, den_and, den_or, den_not, den_ite, den_tup, den_lst, den_sub, den_rev, den_callv, exS_raise, exS_tryR, den_sl, den_call, den_blt, den_meth, denL_nil, denL_cons, WS_seq, WS_toS, WS_nx, WS_rt, WS_asB, WS_ite, WP_bind, WP_ok, WP_asB, WP_ite, bindP, setAll, List.set_cons_zero, List.set_cons_succ, List.getElem?_cons_zero, List.getElem?_cons_succ, decide_true, decide_false, if_true, if_false, Bool.false_eq_true, Bool.not_true, Bool.not_false, isNop, partR, o_add, o_sub, o_lt, o_le, o_gt, o_ge, o_eqi, o_nei, o_eqs, o_nes, o_in, o_notin, o_lent, o_lenl, o_lenc, o_abs, o_min, o_max, o_tupl, o_tupt, o_sll, fin_f, c2]
          have a2 : ¬ z.length ≤ 8 := by omega
          simp [isName, isWord, a2, D.top]
      · simp -implicitDefEqProofs only [exB_cons, exB_nil, exS_expr, exS_set, exS_setSub, exS_fz, exS_ife, exS_ret, exS_pass, den_nop, den_c, den_v, den_bin, den_neg, den_cmp, den_chain, den_and, den_or, den_not, den_ite, den_tup, den_lst, den_sub, den_rev, den_callv, exS_raise, exS_tryR, den_sl, den_call, den_blt, den_meth, denL_nil, denL_cons, WS_seq, WS_toS, WS_nx, WS_rt, WS_asB, WS_ite, WP_bind, WP_ok, WP_asB, WP_ite, bindP, setAll, List.set_cons_zero, List.set_cons_succ, List.getElem?_cons_zero, List.getElem?_cons_succ, decide_true, decide_false, if_true, if_false, Bool.false_eq_true, Bool.not_true, Bool.not_false, isNop, partR, o_add, o_sub, o_lt, o_le, o_gt, o_ge, o_eqi, o_nei, o_eqs, o_nes, o_in, o_notin, o_lent, o_lenl, o_lenc, o_abs, o_min, o_max, o_tupl, o_tupt, o_sll, fin_f, c1]
        have a1 : ¬ 1 ≤ z.length := by omega
        simp [isName, isWord, a1, D.top]
    · have c0' : (z == [107, 101, 121]) = true := c0
      simp -implicitDefEqProofs only [exB_cons, exB_nil, exS_expr, exS_set, exS_setSub, exS_fz, exS_ife, exS_ret, exS_pass, den_nop, den_c, den_v, den_bin, den_neg, den_cmp, den_chain, den_and, den_or, den_not, den_ite, den_tup, den_lst, den_sub, den_rev, den_callv, exS_raise, exS_tryR, den_sl, den_call, den_blt, den_meth, denL_nil, denL_cons, WS_seq, WS_toS, WS_nx, WS_rt, WS_asB, WS_ite, WP_bind, WP_ok, WP_asB, WP_ite, bindP, setAll, List.set_cons_zero, List.set_cons_succ, List.getElem?_cons_zero, List.getElem?_cons_succ, decide_true, decide_false, if_true, if_false, Bool.false_eq_true, Bool.not_true, Bool.not_false, isNop, partR, o_add, o_sub, o_lt, o_le, o_gt, o_ge, o_eqi, o_nei, o_eqs, o_nes, o_in, o_notin, o_lent, o_lenl, o_lenc, o_abs, o_min, o_max, o_tupl, o_tupt, o_sll, fin_f, c0']
      simp [isName, c0, D.top]
  all_goals simp [isT, rd, isName, D.top, WP_ok, WS_rt]
theorem cP6 {s : Fk.St} {t : Bool} : binD .pow t (.int 10) (.int 6) s = .ok (.int 1000000) s := by simp only [binD, rd]; rw [if_pos (by decide +kernel)]; rfl
theorem cP9 {s : Fk.St} {t : Bool} : binD .pow t (.int 10) (.int 9) s = .ok (.int 1000000000) s := by simp only [binD, rd]; rw [if_pos (by decide +kernel)]; rfl
theorem below_le {y m : Int} (y0 : 0 ≤ y) : decide (y ≤ m) = decide (y < m + 1) := by
  by_cases h : y ≤ m
  · simp [h]; omega
  · simp [h]; omega
theorem e_lkey (n : Nat) {d : Fk.D} (s : Fk.St) (h : kk d = true) : callF PP (n + 2) 29 [d] s = .ok (.bl (below d 1000000001)) s := by
  refine eq_of_wp ?_
  rw [callF_eq (fn := fn29) rfl rfl, WP_back]
  show WS (exB _ fn29.body [some d] s) _ _
  simp -implicitDefEqProofs only [exB_cons, exB_nil, exS_expr, exS_set, exS_setSub, exS_fz, exS_ife, exS_ret, exS_pass, den_nop, den_c, den_v, den_bin, den_neg, den_cmp, den_chain, den_and, den_or, den_not, den_ite, den_tup, den_lst, den_sub, den_rev, den_callv, exS_raise, exS_tryR, den_sl, den_call, den_blt, den_meth, denL_nil, denL_cons, WS_seq, WS_toS, WS_nx, WS_rt, WS_asB, WS_ite, WP_bind, WP_ok, WP_asB, WP_ite, bindP, setAll, List.set_cons_zero, List.set_cons_succ, List.getElem?_cons_zero, List.getElem?_cons_succ, decide_true, decide_false, if_true, if_false, Bool.false_eq_true, Bool.not_true, Bool.not_false, isNop, partR, o_add, o_sub, o_lt, o_le, o_gt, o_ge, o_eqi, o_nei, o_eqs, o_nes, o_in, o_notin, o_lent, o_lenl, o_lenc, o_abs, o_min, o_max, o_tupl, o_tupt, o_sll, fin_f, fn29, e_lwhole n s h]
  cases d <;> first | (cases h; done) | skip
  case int i =>
    simp -implicitDefEqProofs only [exB_cons, exB_nil, exS_expr, exS_set, exS_setSub, exS_fz, exS_ife, exS_ret, exS_pass, den_nop, den_c, den_v, den_bin, den_neg, den_cmp, den_chain, den_and, den_or, den_not, den_ite, den_tup, den_lst, den_sub, den_rev, den_callv, exS_raise, exS_tryR, den_sl, den_call, den_blt, den_meth, denL_nil, denL_cons, WS_seq, WS_toS, WS_nx, WS_rt, WS_asB, WS_ite, WP_bind, WP_ok, WP_asB, WP_ite, bindP, setAll, List.set_cons_zero, List.set_cons_succ, List.getElem?_cons_zero, List.getElem?_cons_succ, decide_true, decide_false, if_true, if_false, Bool.false_eq_true, Bool.not_true, Bool.not_false, isNop, partR, o_add, o_sub, o_lt, o_le, o_gt, o_ge, o_eqi, o_nei, o_eqs, o_nes, o_in, o_notin, o_lent, o_lenl, o_lenc, o_abs, o_min, o_max, o_tupl, o_tupt, o_sll, fin_f, isW]
    by_cases c : 0 ≤ i
    · simp -implicitDefEqProofs only [exB_cons, exB_nil, exS_expr, exS_set, exS_setSub, exS_fz, exS_ife, exS_ret, exS_pass, den_nop, den_c, den_v, den_bin, den_neg, den_cmp, den_chain, den_and, den_or, den_not, den_ite, den_tup, den_lst, den_sub, den_rev, den_callv, exS_raise, exS_tryR, den_sl, den_call, den_blt, den_meth, denL_nil, denL_cons, WS_seq, WS_toS, WS_nx, WS_rt, WS_asB, WS_ite, WP_bind, WP_ok, WP_asB, WP_ite, bindP, setAll, List.set_cons_zero, List.set_cons_succ, List.getElem?_cons_zero, List.getElem?_cons_succ, decide_true, decide_false, if_true, if_false, Bool.false_eq_true, Bool.not_true, Bool.not_false, isNop, partR, o_add, o_sub, o_lt, o_le, o_gt, o_ge, o_eqi, o_nei, o_eqs, o_nes, o_in, o_notin, o_lent, o_lenl, o_lenc, o_abs, o_min, o_max, o_tupl, o_tupt, o_sll, fin_f, c, cP9]
      rw [below_le c]
      simp [below, c, D.top]
    · simp -implicitDefEqProofs only [exB_cons, exB_nil, exS_expr, exS_set, exS_setSub, exS_fz, exS_ife, exS_ret, exS_pass, den_nop, den_c, den_v, den_bin, den_neg, den_cmp, den_chain, den_and, den_or, den_not, den_ite, den_tup, den_lst, den_sub, den_rev, den_callv, exS_raise, exS_tryR, den_sl, den_call, den_blt, den_meth, denL_nil, denL_cons, WS_seq, WS_toS, WS_nx, WS_rt, WS_asB, WS_ite, WP_bind, WP_ok, WP_asB, WP_ite, bindP, setAll, List.set_cons_zero, List.set_cons_succ, List.getElem?_cons_zero, List.getElem?_cons_succ, decide_true, decide_false, if_true, if_false, Bool.false_eq_true, Bool.not_true, Bool.not_false, isNop, partR, o_add, o_sub, o_lt, o_le, o_gt, o_ge, o_eqi, o_nei, o_eqs, o_nes, o_in, o_notin, o_lent, o_lenl, o_lenc, o_abs, o_min, o_max, o_tupl, o_tupt, o_sll, fin_f, c]
      simp [below, c, D.top]
  all_goals simp [isW, below, WP_ok, D.top]
theorem e_lid (n : Nat) {d : Fk.D} (s : Fk.St) (h : okD d = true) : callF PP (n + 2) 28 [d] s = .ok (.bl (isId d)) s := by
  refine eq_of_wp ?_
  rw [callF_eq (fn := fn28) rfl rfl, WP_back]
  show WS (exB _ fn28.body [some d] s) _ _
  have hk := ok1_kk (okD_1 h)
  simp -implicitDefEqProofs only [exB_cons, exB_nil, exS_expr, exS_set, exS_setSub, exS_fz, exS_ife, exS_ret, exS_pass, den_nop, den_c, den_v, den_bin, den_neg, den_cmp, den_chain, den_and, den_or, den_not, den_ite, den_tup, den_lst, den_sub, den_rev, den_callv, exS_raise, exS_tryR, den_sl, den_call, den_blt, den_meth, denL_nil, denL_cons, WS_seq, WS_toS, WS_nx, WS_rt, WS_asB, WS_ite, WP_bind, WP_ok, WP_asB, WP_ite, bindP, setAll, List.set_cons_zero, List.set_cons_succ, List.getElem?_cons_zero, List.getElem?_cons_succ, decide_true, decide_false, if_true, if_false, Bool.false_eq_true, Bool.not_true, Bool.not_false, isNop, partR, o_add, o_sub, o_lt, o_le, o_gt, o_ge, o_eqi, o_nei, o_eqs, o_nes, o_in, o_notin, o_lent, o_lenl, o_lenc, o_abs, o_min, o_max, o_tupl, o_tupt, o_sll, fin_f, fn28, o_isin hk, isT_kk hk]
  cases d <;> first | (cases hk; done) | skip
  case tup ds =>
    have e1 : isT [] 3 (.tup ds) = true := rfl
    simp -implicitDefEqProofs only [exB_cons, exB_nil, exS_expr, exS_set, exS_setSub, exS_fz, exS_ife, exS_ret, exS_pass, den_nop, den_c, den_v, den_bin, den_neg, den_cmp, den_chain, den_and, den_or, den_not, den_ite, den_tup, den_lst, den_sub, den_rev, den_callv, exS_raise, exS_tryR, den_sl, den_call, den_blt, den_meth, denL_nil, denL_cons, WS_seq, WS_toS, WS_nx, WS_rt, WS_asB, WS_ite, WP_bind, WP_ok, WP_asB, WP_ite, bindP, setAll, List.set_cons_zero, List.set_cons_succ, List.getElem?_cons_zero, List.getElem?_cons_succ, decide_true, decide_false, if_true, if_false, Bool.false_eq_true, Bool.not_true, Bool.not_false, isNop, partR, o_add, o_sub, o_lt, o_le, o_gt, o_ge, o_eqi, o_nei, o_eqs, o_nes, o_in, o_notin, o_lent, o_lenl, o_lenc, o_abs, o_min, o_max, o_tupl, o_tupt, o_sll, fin_f, e1]
    by_cases c : ds.length = 3
    · have cc : ((ds.length : Int) == 3) = true := by simp [c]
      obtain ⟨a, b, k, rfl⟩ := row3_of (ds := ds) (by simp [row3, c])
      have ha := okD_t h a (by simp)
      have hb := okD_t h b (by simp)
      have hc := okD_t h k (by simp)
      have i0 : subD (.tup [a, b, k]) (.int 0) s = .ok a s := rfl
      have i1 : subD (.tup [a, b, k]) (.int 1) s = .ok b s := rfl
      have i2 : subD (.tup [a, b, k]) (.int 2) s = .ok k s := rfl
      simp -implicitDefEqProofs only [exB_cons, exB_nil, exS_expr, exS_set, exS_setSub, exS_fz, exS_ife, exS_ret, exS_pass, den_nop, den_c, den_v, den_bin, den_neg, den_cmp, den_chain, den_and, den_or, den_not, den_ite, den_tup, den_lst, den_sub, den_rev, den_callv, exS_raise, exS_tryR, den_sl, den_call, den_blt, den_meth, denL_nil, denL_cons, WS_seq, WS_toS, WS_nx, WS_rt, WS_asB, WS_ite, WP_bind, WP_ok, WP_asB, WP_ite, bindP, setAll, List.set_cons_zero, List.set_cons_succ, List.getElem?_cons_zero, List.getElem?_cons_succ, decide_true, decide_false, if_true, if_false, Bool.false_eq_true, Bool.not_true, Bool.not_false, isNop, partR, o_add, o_sub, o_lt, o_le, o_gt, o_ge, o_eqi, o_nei, o_eqs, o_nes, o_in, o_notin, o_lent, o_lenl, o_lenc, o_abs, o_min, o_max, o_tupl, o_tupt, o_sll, fin_f, cc, i1, e_lname n s hb]
      cases q1 : isName b
      · simp [isId, q1, D.top, WS_rt]
      · simp -implicitDefEqProofs only [exB_cons, exB_nil, exS_expr, exS_set, exS_setSub, exS_fz, exS_ife, exS_ret, exS_pass, den_nop, den_c, den_v, den_bin, den_neg, den_cmp, den_chain, den_and, den_or, den_not, den_ite, den_tup, den_lst, den_sub, den_rev, den_callv, exS_raise, exS_tryR, den_sl, den_call, den_blt, den_meth, denL_nil, denL_cons, WS_seq, WS_toS, WS_nx, WS_rt, WS_asB, WS_ite, WP_bind, WP_ok, WP_asB, WP_ite, bindP, setAll, List.set_cons_zero, List.set_cons_succ, List.getElem?_cons_zero, List.getElem?_cons_succ, decide_true, decide_false, if_true, if_false, Bool.false_eq_true, Bool.not_true, Bool.not_false, isNop, partR, o_add, o_sub, o_lt, o_le, o_gt, o_ge, o_eqi, o_nei, o_eqs, o_nes, o_in, o_notin, o_lent, o_lenl, o_lenc, o_abs, o_min, o_max, o_tupl, o_tupt, o_sll, fin_f, i0, e_lwhole n s (ok1_kk ha)]
        cases qa : isW a
        · have ba : below a 8 = false := by cases a <;> first | rfl | (cases qa; done)
          simp [isId, ba, WS_rt, D.top]
        · simp -implicitDefEqProofs only [exB_cons, exB_nil, exS_expr, exS_set, exS_setSub, exS_fz, exS_ife, exS_ret, exS_pass, den_nop, den_c, den_v, den_bin, den_neg, den_cmp, den_chain, den_and, den_or, den_not, den_ite, den_tup, den_lst, den_sub, den_rev, den_callv, exS_raise, exS_tryR, den_sl, den_call, den_blt, den_meth, denL_nil, denL_cons, WS_seq, WS_toS, WS_nx, WS_rt, WS_asB, WS_ite, WP_bind, WP_ok, WP_asB, WP_ite, bindP, setAll, List.set_cons_zero, List.set_cons_succ, List.getElem?_cons_zero, List.getElem?_cons_succ, decide_true, decide_false, if_true, if_false, Bool.false_eq_true, Bool.not_true, Bool.not_false, isNop, partR, o_add, o_sub, o_lt, o_le, o_gt, o_ge, o_eqi, o_nei, o_eqs, o_nes, o_in, o_notin, o_lent, o_lenl, o_lenc, o_abs, o_min, o_max, o_tupl, o_tupt, o_sll, fin_f, i2, e_lwhole n s (ok1_kk hc)]
          cases qk : isW k
          · have bk : below k 1000001 = false := by cases k <;> first | rfl | (cases qk; done)
            simp [isId, bk, WS_rt, D.top]
          · simp -implicitDefEqProofs only [exB_cons, exB_nil, exS_expr, exS_set, exS_setSub, exS_fz, exS_ife, exS_ret, exS_pass, den_nop, den_c, den_v, den_bin, den_neg, den_cmp, den_chain, den_and, den_or, den_not, den_ite, den_tup, den_lst, den_sub, den_rev, den_callv, exS_raise, exS_tryR, den_sl, den_call, den_blt, den_meth, denL_nil, denL_cons, WS_seq, WS_toS, WS_nx, WS_rt, WS_asB, WS_ite, WP_bind, WP_ok, WP_asB, WP_ite, bindP, setAll, List.set_cons_zero, List.set_cons_succ, List.getElem?_cons_zero, List.getElem?_cons_succ, decide_true, decide_false, if_true, if_false, Bool.false_eq_true, Bool.not_true, Bool.not_false, isNop, partR, o_add, o_sub, o_lt, o_le, o_gt, o_ge, o_eqi, o_nei, o_eqs, o_nes, o_in, o_notin, o_lent, o_lenl, o_lenc, o_abs, o_min, o_max, o_tupl, o_tupt, o_sll, fin_f, i0, i2]
            cases a <;> first | (cases qa; done) | skip
            cases k <;> first | (cases qk; done) | skip
            rename_i x y
            simp -implicitDefEqProofs only [exB_cons, exB_nil, exS_expr, exS_set, exS_setSub, exS_fz, exS_ife, exS_ret, exS_pass, den_nop, den_c, den_v, den_bin, den_neg, den_cmp, den_chain, den_and, den_or, den_not, den_ite, den_tup, den_lst, den_sub, den_rev, den_callv, exS_raise, exS_tryR, den_sl, den_call, den_blt, den_meth, denL_nil, denL_cons, WS_seq, WS_toS, WS_nx, WS_rt, WS_asB, WS_ite, WP_bind, WP_ok, WP_asB, WP_ite, bindP, setAll, List.set_cons_zero, List.set_cons_succ, List.getElem?_cons_zero, List.getElem?_cons_succ, decide_true, decide_false, if_true, if_false, Bool.false_eq_true, Bool.not_true, Bool.not_false, isNop, partR, o_add, o_sub, o_lt, o_le, o_gt, o_ge, o_eqi, o_nei, o_eqs, o_nes, o_in, o_notin, o_lent, o_lenl, o_lenc, o_abs, o_min, o_max, o_tupl, o_tupt, o_sll, fin_f]
            by_cases x0 : 0 ≤ x
            · by_cases x1 : x ≤ 7
              · have : below (.int x) 8 = true := by simp [below, x0]; omega
                by_cases y0 : 0 ≤ y
                · simp -implicitDefEqProofs only [exB_cons, exB_nil, exS_expr, exS_set, exS_setSub, exS_fz, exS_ife, exS_ret, exS_pass, den_nop, den_c, den_v, den_bin, den_neg, den_cmp, den_chain, den_and, den_or, den_not, den_ite, den_tup, den_lst, den_sub, den_rev, den_callv, exS_raise, exS_tryR, den_sl, den_call, den_blt, den_meth, denL_nil, denL_cons, WS_seq, WS_toS, WS_nx, WS_rt, WS_asB, WS_ite, WP_bind, WP_ok, WP_asB, WP_ite, bindP, setAll, List.set_cons_zero, List.set_cons_succ, List.getElem?_cons_zero, List.getElem?_cons_succ, decide_true, decide_false, if_true, if_false, Bool.false_eq_true, Bool.not_true, Bool.not_false, isNop, partR, o_add, o_sub, o_lt, o_le, o_gt, o_ge, o_eqi, o_nei, o_eqs, o_nes, o_in, o_notin, o_lent, o_lenl, o_lenc, o_abs, o_min, o_max, o_tupl, o_tupt, o_sll, fin_f, x0, x1, i2, y0, cP6]
                  rw [below_le y0]
                  simp_all [isId, below, D.top]
                · simp -implicitDefEqProofs only [exB_cons, exB_nil, exS_expr, exS_set, exS_setSub, exS_fz, exS_ife, exS_ret, exS_pass, den_nop, den_c, den_v, den_bin, den_neg, den_cmp, den_chain, den_and, den_or, den_not, den_ite, den_tup, den_lst, den_sub, den_rev, den_callv, exS_raise, exS_tryR, den_sl, den_call, den_blt, den_meth, denL_nil, denL_cons, WS_seq, WS_toS, WS_nx, WS_rt, WS_asB, WS_ite, WP_bind, WP_ok, WP_asB, WP_ite, bindP, setAll, List.set_cons_zero, List.set_cons_succ, List.getElem?_cons_zero, List.getElem?_cons_succ, decide_true, decide_false, if_true, if_false, Bool.false_eq_true, Bool.not_true, Bool.not_false, isNop, partR, o_add, o_sub, o_lt, o_le, o_gt, o_ge, o_eqi, o_nei, o_eqs, o_nes, o_in, o_notin, o_lent, o_lenl, o_lenc, o_abs, o_min, o_max, o_tupl, o_tupt, o_sll, fin_f, x0, x1, i2, y0]
                  simp [isId, below, y0, D.top]
              · have : below (.int x) 8 = false := by simp [below]; omega
                simp -implicitDefEqProofs only [exB_cons, exB_nil, exS_expr, exS_set, exS_setSub, exS_fz, exS_ife, exS_ret, exS_pass, den_nop, den_c, den_v, den_bin, den_neg, den_cmp, den_chain, den_and, den_or, den_not, den_ite, den_tup, den_lst, den_sub, den_rev, den_callv, exS_raise, exS_tryR, den_sl, den_call, den_blt, den_meth, denL_nil, denL_cons, WS_seq, WS_toS, WS_nx, WS_rt, WS_asB, WS_ite, WP_bind, WP_ok, WP_asB, WP_ite, bindP, setAll, List.set_cons_zero, List.set_cons_succ, List.getElem?_cons_zero, List.getElem?_cons_succ, decide_true, decide_false, if_true, if_false, Bool.false_eq_true, Bool.not_true, Bool.not_false, isNop, partR, o_add, o_sub, o_lt, o_le, o_gt, o_ge, o_eqi, o_nei, o_eqs, o_nes, o_in, o_notin, o_lent, o_lenl, o_lenc, o_abs, o_min, o_max, o_tupl, o_tupt, o_sll, fin_f, x0, x1]
                simp [isId, this, D.top]
            · simp -implicitDefEqProofs only [exB_cons, exB_nil, exS_expr, exS_set, exS_setSub, exS_fz, exS_ife, exS_ret, exS_pass, den_nop, den_c, den_v, den_bin, den_neg, den_cmp, den_chain, den_and, den_or, den_not, den_ite, den_tup, den_lst, den_sub, den_rev, den_callv, exS_raise, exS_tryR, den_sl, den_call, den_blt, den_meth, denL_nil, denL_cons, WS_seq, WS_toS, WS_nx, WS_rt, WS_asB, WS_ite, WP_bind, WP_ok, WP_asB, WP_ite, bindP, setAll, List.set_cons_zero, List.set_cons_succ, List.getElem?_cons_zero, List.getElem?_cons_succ, decide_true, decide_false, if_true, if_false, Bool.false_eq_true, Bool.not_true, Bool.not_false, isNop, partR, o_add, o_sub, o_lt, o_le, o_gt, o_ge, o_eqi, o_nei, o_eqs, o_nes, o_in, o_notin, o_lent, o_lenl, o_lenc, o_abs, o_min, o_max, o_tupl, o_tupt, o_sll, fin_f, x0]
              simp [isId, below, x0, D.top]
    · have cc : ((ds.length : Int) == 3) = false := by rw [beq_eq_false_iff_ne]; omega
      simp -implicitDefEqProofs only [exB_cons, exB_nil, exS_expr, exS_set, exS_setSub, exS_fz, exS_ife, exS_ret, exS_pass, den_nop, den_c, den_v, den_bin, den_neg, den_cmp, den_chain, den_and, den_or, den_not, den_ite, den_tup, den_lst, den_sub, den_rev, den_callv, exS_raise, exS_tryR, den_sl, den_call, den_blt, den_meth, denL_nil, denL_cons, WS_seq, WS_toS, WS_nx, WS_rt, WS_asB, WS_ite, WP_bind, WP_ok, WP_asB, WP_ite, bindP, setAll, List.set_cons_zero, List.set_cons_succ, List.getElem?_cons_zero, List.getElem?_cons_succ, decide_true, decide_false, if_true, if_false, Bool.false_eq_true, Bool.not_true, Bool.not_false, isNop, partR, o_add, o_sub, o_lt, o_le, o_gt, o_ge, o_eqi, o_nei, o_eqs, o_nes, o_in, o_notin, o_lent, o_lenl, o_lenc, o_abs, o_min, o_max, o_tupl, o_tupt, o_sll, fin_f, cc]
      rw [row3_no (d := .tup ds) (by simp [row3, c])]
      simp [D.top]
  all_goals simp [isT, rd, isId, D.top, WP_ok, WS_rt]
theorem sub2 {a b c : Fk.D} {r : List Fk.D} {s : Fk.St} : subD (.tup (a :: b :: c :: r)) (.int 2) s = .ok c s := by
  have h : (2 : Int) < ((a :: b :: c :: r).length : Int) := by simp; omega
  simp only [subD, rd, atI, ixN]
  rw [if_pos (by decide), if_pos h]
  rfl
theorem sub3 {a b c d : Fk.D} {s : Fk.St} : subD (.tup [a, b, c, d]) (.int 3) s = .ok d s := rfl
theorem e_lplace (n : Nat) {d : Fk.D} (s : Fk.St) (h : okP d = true) : callF PP (n + 3) 30 [d] s = .ok (.bl (isPlace d)) s := by
  refine eq_of_wp ?_
  rw [callF_eq (fn := fn30) rfl rfl, WP_back]
  show WS (exB _ fn30.body [some d, none] s) _ _
  have hk := ok1_kk (okP_1 h)
  rw [fn30]
  rw [exB_cons]
  simp -implicitDefEqProofs only [exB_nil, exS_expr, exS_set, exS_setSub, exS_fz, exS_ife, exS_ret, exS_pass, den_nop, den_c, den_v, den_bin, den_neg, den_cmp, den_chain, den_and, den_or, den_not, den_ite, den_tup, den_lst, den_sub, den_rev, den_callv, exS_raise, exS_tryR, den_sl, den_call, den_blt, den_meth, denL_nil, denL_cons, WS_seq, WS_toS, WS_nx, WS_rt, WS_asB, WS_ite, WP_bind, WP_ok, WP_asB, WP_ite, bindP, setAll, List.set_cons_zero, List.set_cons_succ, List.getElem?_cons_zero, List.getElem?_cons_succ, decide_true, decide_false, if_true, if_false, Bool.false_eq_true, Bool.not_true, Bool.not_false, isNop, partR, o_add, o_sub, o_lt, o_le, o_gt, o_ge, o_eqi, o_nei, o_eqs, o_nes, o_in, o_notin, o_lent, o_lenl, o_lenc, o_abs, o_min, o_max, o_tupl, o_tupt, o_sll, fin_f, o_isin hk, isT_kk hk]
  cases d <;> first | (cases hk; done) | skip
  case tup ds =>
    have e1 : isT [] 3 (.tup ds) = true := rfl
    have hd := okP_t h
    simp -implicitDefEqProofs only [exB_nil, exS_expr, exS_set, exS_setSub, exS_fz, exS_ife, exS_ret, exS_pass, den_nop, den_c, den_v, den_bin, den_neg, den_cmp, den_chain, den_and, den_or, den_not, den_ite, den_tup, den_lst, den_sub, den_rev, den_callv, exS_raise, exS_tryR, den_sl, den_call, den_blt, den_meth, denL_nil, denL_cons, WS_seq, WS_toS, WS_nx, WS_rt, WS_asB, WS_ite, WP_bind, WP_ok, WP_asB, WP_ite, bindP, setAll, List.set_cons_zero, List.set_cons_succ, List.getElem?_cons_zero, List.getElem?_cons_succ, decide_true, decide_false, if_true, if_false, Bool.false_eq_true, Bool.not_true, Bool.not_false, isNop, partR, o_add, o_sub, o_lt, o_le, o_gt, o_ge, o_eqi, o_nei, o_eqs, o_nes, o_in, o_notin, o_lent, o_lenl, o_lenc, o_abs, o_min, o_max, o_tupl, o_tupt, o_sll, fin_f, e1]
    match ds, hd with
    | [], _ =>
      simp -implicitDefEqProofs only [exB_cons, exB_nil, exS_expr, exS_set, exS_setSub, exS_fz, exS_ife, exS_ret, exS_pass, den_nop, den_c, den_v, den_bin, den_neg, den_cmp, den_chain, den_and, den_or, den_not, den_ite, den_tup, den_lst, den_sub, den_rev, den_callv, exS_raise, exS_tryR, den_sl, den_call, den_blt, den_meth, denL_nil, denL_cons, WS_seq, WS_toS, WS_nx, WS_rt, WS_asB, WS_ite, WP_bind, WP_ok, WP_asB, WP_ite, bindP, setAll, List.set_cons_zero, List.set_cons_succ, List.getElem?_cons_zero, List.getElem?_cons_succ, decide_true, decide_false, if_true, if_false, Bool.false_eq_true, Bool.not_true, Bool.not_false, isNop, partR, o_add, o_sub, o_lt, o_le, o_gt, o_ge, o_eqi, o_nei, o_eqs, o_nes, o_in, o_notin, o_lent, o_lenl, o_lenc, o_abs, o_min, o_max, o_tupl, o_tupt, o_sll, fin_f, List.length_nil]
      simp [isPlace, WS_rt, D.top]
    | [x], _ =>
      simp -implicitDefEqProofs only [exB_cons, exB_nil, exS_expr, exS_set, exS_setSub, exS_fz, exS_ife, exS_ret, exS_pass, den_nop, den_c, den_v, den_bin, den_neg, den_cmp, den_chain, den_and, den_or, den_not, den_ite, den_tup, den_lst, den_sub, den_rev, den_callv, exS_raise, exS_tryR, den_sl, den_call, den_blt, den_meth, denL_nil, denL_cons, WS_seq, WS_toS, WS_nx, WS_rt, WS_asB, WS_ite, WP_bind, WP_ok, WP_asB, WP_ite, bindP, setAll, List.set_cons_zero, List.set_cons_succ, List.getElem?_cons_zero, List.getElem?_cons_succ, decide_true, decide_false, if_true, if_false, Bool.false_eq_true, Bool.not_true, Bool.not_false, isNop, partR, o_add, o_sub, o_lt, o_le, o_gt, o_ge, o_eqi, o_nei, o_eqs, o_nes, o_in, o_notin, o_lent, o_lenl, o_lenc, o_abs, o_min, o_max, o_tupl, o_tupt, o_sll, fin_f, List.length_cons, List.length_nil]
      simp [isPlace, WS_rt, D.top]
    | a :: b :: r, hd =>
      have hlen : decide (((a :: b :: r).length : Int) < 2) = false := by
        rw [decide_eq_false_iff_not]
        simp; omega
      have ha := hd a (by simp)
      have hb := hd b (by simp)
      have hka := ok1_kk (okD_1 ha)
      have hr : ∀ x ∈ r, okD x = true := fun x hx => hd x (by simp [hx])
      have a1 : callF PP (n + 2) 27 [b] s = .ok (.bl (isName b)) s := e_lname (n + 1) s (okD_1 hb)
      simp -implicitDefEqProofs only [exB_nil, exS_expr, exS_set, exS_setSub, exS_fz, exS_ife, exS_ret, exS_pass, den_nop, den_c, den_v, den_bin, den_neg, den_cmp, den_chain, den_and, den_or, den_not, den_ite, den_tup, den_lst, den_sub, den_rev, den_callv, exS_raise, exS_tryR, den_sl, den_call, den_blt, den_meth, denL_nil, denL_cons, WS_seq, WS_toS, WS_nx, WS_rt, WS_asB, WS_ite, WP_bind, WP_ok, WP_asB, WP_ite, bindP, setAll, List.set_cons_zero, List.set_cons_succ, List.getElem?_cons_zero, List.getElem?_cons_succ, decide_true, decide_false, if_true, if_false, Bool.false_eq_true, Bool.not_true, Bool.not_false, isNop, partR, o_add, o_sub, o_lt, o_le, o_gt, o_ge, o_eqi, o_nei, o_eqs, o_nes, o_in, o_notin, o_lent, o_lenl, o_lenc, o_abs, o_min, o_max, o_tupl, o_tupt, o_sll, fin_f, hlen, sub0, o_isin hka, isT_kk hka]
      cases a <;> first | (cases hka; done) | skip
      case str w =>
        have e2 : isT [] 2 (.str w) = true := rfl
        simp -implicitDefEqProofs only [exB_nil, exS_expr, exS_set, exS_setSub, exS_fz, exS_ife, exS_ret, exS_pass, den_nop, den_c, den_v, den_bin, den_neg, den_cmp, den_chain, den_and, den_or, den_not, den_ite, den_tup, den_lst, den_sub, den_rev, den_callv, exS_raise, exS_tryR, den_sl, den_call, den_blt, den_meth, denL_nil, denL_cons, WS_seq, WS_toS, WS_nx, WS_rt, WS_asB, WS_ite, WP_bind, WP_ok, WP_asB, WP_ite, bindP, setAll, List.set_cons_zero, List.set_cons_succ, List.getElem?_cons_zero, List.getElem?_cons_succ, decide_true, decide_false, if_true, if_false, Bool.false_eq_true, Bool.not_true, Bool.not_false, isNop, partR, o_add, o_sub, o_lt, o_le, o_gt, o_ge, o_eqi, o_nei, o_eqs, o_nes, o_in, o_notin, o_lent, o_lenl, o_lenc, o_abs, o_min, o_max, o_tupl, o_tupt, o_sll, fin_f, e2, sub1, a1]
        cases hn : isName b
        · simp -implicitDefEqProofs only [exB_cons, exB_nil, exS_expr, exS_set, exS_setSub, exS_fz, exS_ife, exS_ret, exS_pass, den_nop, den_c, den_v, den_bin, den_neg, den_cmp, den_chain, den_and, den_or, den_not, den_ite, den_tup, den_lst, den_sub, den_rev, den_callv, exS_raise, exS_tryR, den_sl, den_call, den_blt, den_meth, denL_nil, denL_cons, WS_seq, WS_toS, WS_nx, WS_rt, WS_asB, WS_ite, WP_bind, WP_ok, WP_asB, WP_ite, bindP, setAll, List.set_cons_zero, List.set_cons_succ, List.getElem?_cons_zero, List.getElem?_cons_succ, decide_true, decide_false, if_true, if_false, Bool.false_eq_true, Bool.not_true, Bool.not_false, isNop, partR, o_add, o_sub, o_lt, o_le, o_gt, o_ge, o_eqi, o_nei, o_eqs, o_nes, o_in, o_notin, o_lent, o_lenl, o_lenc, o_abs, o_min, o_max, o_tupl, o_tupt, o_sll, fin_f]
          simp [isPlace, hn, WS_rt, D.top]
        · have ip : isPlace (.tup (.str w :: b :: r)) = rests w r := by simp [isPlace, hn]
          rw [ip]
          have lne : ∀ k : Int, (r.length : Int) + 2 ≠ k → (((Fk.D.str w :: b :: r).length : Int) == k) = false := fun k hk => by
            rw [beq_eq_false_iff_ne]
            intro q
            simp only [List.length_cons] at q
            omega
          have l2 : (((Fk.D.str w :: b :: r).length : Int) == 2) = r.isEmpty := by
            cases r with
            | nil => rfl
            | cons _ _ => rw [lne 2 (by simp only [List.length_cons]; omega)]; rfl
          have l3 : (((Fk.D.str w :: b :: r).length : Int) == 3) = decide (r.length = 1) := by
            by_cases c : r.length = 1
            · simp [c]
            · rw [lne 3 (by omega)]; simp [c]
          have l4 : (((Fk.D.str w :: b :: r).length : Int) == 4) = decide (r.length = 2) := by
            by_cases c : r.length = 2
            · simp [c]
            · rw [lne 4 (by omega)]; simp [c]
          unfold rests
          simp -implicitDefEqProofs only [exB_cons, exB_nil, exS_expr, exS_set, exS_setSub, exS_fz, exS_ife, exS_ret, exS_pass, den_nop, den_c, den_v, den_bin, den_neg, den_cmp, den_chain, den_and, den_or, den_not, den_ite, den_tup, den_lst, den_sub, den_rev, den_callv, exS_raise, exS_tryR, den_sl, den_call, den_blt, den_meth, denL_nil, denL_cons, WS_seq, WS_toS, WS_nx, WS_rt, WS_asB, WS_ite, WP_bind, WP_ok, WP_asB, WP_ite, bindP, setAll, List.set_cons_zero, List.set_cons_succ, List.getElem?_cons_zero, List.getElem?_cons_succ, decide_true, decide_false, if_true, if_false, Bool.false_eq_true, Bool.not_true, Bool.not_false, isNop, partR, o_add, o_sub, o_lt, o_le, o_gt, o_ge, o_eqi, o_nei, o_eqs, o_nes, o_in, o_notin, o_lent, o_lenl, o_lenc, o_abs, o_min, o_max, o_tupl, o_tupt, o_sll, fin_f, sub0, l2, l3, l4]
          by_cases t1 : (w == TAB) = true
          · have hw : w = TAB := by simpa using t1
            subst hw
            cases r <;> exact ⟨rfl, top0⟩
          · rw [if_neg (show ¬ (w == [116, 97, 98, 108, 101]) = true from t1)]
            by_cases t2 : (w == CEL) = true
            · have hw : w = CEL := by simpa using t2
              subst hw
              rw [if_pos (show (CEL == [99, 101, 108, 108]) = true from rfl)]
              by_cases c : r.length = 2
              · match r, c with
                | [x, y], _ =>
                  have k1 : callF PP (n + 2) 29 [x] s = .ok (.bl (below x 1000000001)) s := e_lkey n s (ok1_kk (okD_1 (hr x (by simp))))
                  have k2 : callF PP (n + 2) 28 [y] s = .ok (.bl (isId y)) s := e_lid n s (hr y (by simp))
                  simp -implicitDefEqProofs only [exB_cons, exB_nil, exS_expr, exS_set, exS_setSub, exS_fz, exS_ife, exS_ret, exS_pass, den_nop, den_c, den_v, den_bin, den_neg, den_cmp, den_chain, den_and, den_or, den_not, den_ite, den_tup, den_lst, den_sub, den_rev, den_callv, exS_raise, exS_tryR, den_sl, den_call, den_blt, den_meth, denL_nil, denL_cons, WS_seq, WS_toS, WS_nx, WS_rt, WS_asB, WS_ite, WP_bind, WP_ok, WP_asB, WP_ite, bindP, setAll, List.set_cons_zero, List.set_cons_succ, List.getElem?_cons_zero, List.getElem?_cons_succ, decide_true, decide_false, if_true, if_false, Bool.false_eq_true, Bool.not_true, Bool.not_false, isNop, partR, o_add, o_sub, o_lt, o_le, o_gt, o_ge, o_eqi, o_nei, o_eqs, o_nes, o_in, o_notin, o_lent, o_lenl, o_lenc, o_abs, o_min, o_max, o_tupl, o_tupt, o_sll, fin_f, List.length_cons, List.length_nil, sub2, k1]
                  cases hx : below x 1000000001
                  · simp [hx, two, CEL, COL, NAM, KND, ELS, SLT, ROW, D.top]
                  · simp -implicitDefEqProofs only [exB_cons, exB_nil, exS_expr, exS_set, exS_setSub, exS_fz, exS_ife, exS_ret, exS_pass, den_nop, den_c, den_v, den_bin, den_neg, den_cmp, den_chain, den_and, den_or, den_not, den_ite, den_tup, den_lst, den_sub, den_rev, den_callv, exS_raise, exS_tryR, den_sl, den_call, den_blt, den_meth, denL_nil, denL_cons, WS_seq, WS_toS, WS_nx, WS_rt, WS_asB, WS_ite, WP_bind, WP_ok, WP_asB, WP_ite, bindP, setAll, List.set_cons_zero, List.set_cons_succ, List.getElem?_cons_zero, List.getElem?_cons_succ, decide_true, decide_false, if_true, if_false, Bool.false_eq_true, Bool.not_true, Bool.not_false, isNop, partR, o_add, o_sub, o_lt, o_le, o_gt, o_ge, o_eqi, o_nei, o_eqs, o_nes, o_in, o_notin, o_lent, o_lenl, o_lenc, o_abs, o_min, o_max, o_tupl, o_tupt, o_sll, fin_f, sub3, k2]
                    simp [hx, two, CEL, COL, NAM, KND, ELS, SLT, ROW, D.top]
              · simp -implicitDefEqProofs only [exB_cons, exB_nil, exS_expr, exS_set, exS_setSub, exS_fz, exS_ife, exS_ret, exS_pass, den_nop, den_c, den_v, den_bin, den_neg, den_cmp, den_chain, den_and, den_or, den_not, den_ite, den_tup, den_lst, den_sub, den_rev, den_callv, exS_raise, exS_tryR, den_sl, den_call, den_blt, den_meth, denL_nil, denL_cons, WS_seq, WS_toS, WS_nx, WS_rt, WS_asB, WS_ite, WP_bind, WP_ok, WP_asB, WP_ite, bindP, setAll, List.set_cons_zero, List.set_cons_succ, List.getElem?_cons_zero, List.getElem?_cons_succ, decide_true, decide_false, if_true, if_false, Bool.false_eq_true, Bool.not_true, Bool.not_false, isNop, partR, o_add, o_sub, o_lt, o_le, o_gt, o_ge, o_eqi, o_nei, o_eqs, o_nes, o_in, o_notin, o_lent, o_lenl, o_lenc, o_abs, o_min, o_max, o_tupl, o_tupt, o_sll, fin_f, c]
                rw [two_len _ _ c]
                exact ⟨rfl, top0⟩
            · rw [if_neg (show ¬ (w == [99, 101, 108, 108]) = true from t2)]
              by_cases c : r.length = 1
              · match r, c with
                | [x], _ =>
                  have k0 : callF PP (n + 2) 27 [x] s = .ok (.bl (isName x)) s := e_lname (n + 1) s (okD_1 (hr x (by simp)))
                  have k1 : callF PP (n + 2) 29 [x] s = .ok (.bl (below x 1000000001)) s := e_lkey n s (ok1_kk (okD_1 (hr x (by simp))))
                  have k2 : callF PP (n + 2) 28 [x] s = .ok (.bl (isId x)) s := e_lid n s (hr x (by simp))
                  simp -implicitDefEqProofs only [exB_cons, exB_nil, exS_expr, exS_set, exS_setSub, exS_fz, exS_ife, exS_ret, exS_pass, den_nop, den_c, den_v, den_bin, den_neg, den_cmp, den_chain, den_and, den_or, den_not, den_ite, den_tup, den_lst, den_sub, den_rev, den_callv, exS_raise, exS_tryR, den_sl, den_call, den_blt, den_meth, denL_nil, denL_cons, WS_seq, WS_toS, WS_nx, WS_rt, WS_asB, WS_ite, WP_bind, WP_ok, WP_asB, WP_ite, bindP, setAll, List.set_cons_zero, List.set_cons_succ, List.getElem?_cons_zero, List.getElem?_cons_succ, decide_true, decide_false, if_true, if_false, Bool.false_eq_true, Bool.not_true, Bool.not_false, isNop, partR, o_add, o_sub, o_lt, o_le, o_gt, o_ge, o_eqi, o_nei, o_eqs, o_nes, o_in, o_notin, o_lent, o_lenl, o_lenc, o_abs, o_min, o_max, o_tupl, o_tupt, o_sll, fin_f, List.length_cons, List.length_nil, sub2, k0, k1, k2, o_in4l]
                  by_cases t3 : (w == SLT) = true
                  · have hw : w = SLT := by simpa using t3
                    subst hw
                    exact ⟨rfl, top0⟩
                  · rw [if_neg (show ¬ (w == [115, 108, 111, 116]) = true from t3)]
                    by_cases t4 : (w == ROW) = true
                    · have hw : w = ROW := by simpa using t4
                      subst hw
                      exact ⟨rfl, top0⟩
                    · rw [if_neg (show ¬ (w == [114, 111, 119]) = true from t4)]
                      rw [if_neg t3, if_neg t4, if_neg t2]
                      have t1' : (w == TAB) = false := by simpa using t1
                      rw [t1']
                      by_cases c1 : (COL == w || (NAM == w || (KND == w || (ELS == w || false)))) = true
                      · rw [if_pos c1, if_pos (show ([99, 111, 108, 117, 109, 110] == w || ([110, 97, 109, 101] == w || ([107, 105, 110, 100] == w || ([101, 108, 115, 101] == w || false)))) = true from c1)]
                        exact ⟨rfl, top0⟩
                      · rw [if_neg c1, if_neg (show ¬ ([99, 111, 108, 117, 109, 110] == w || ([110, 97, 109, 101] == w || ([107, 105, 110, 100] == w || ([101, 108, 115, 101] == w || false)))) = true from c1)]
                        exact ⟨rfl, top0⟩
              · simp -implicitDefEqProofs only [exB_cons, exB_nil, exS_expr, exS_set, exS_setSub, exS_fz, exS_ife, exS_ret, exS_pass, den_nop, den_c, den_v, den_bin, den_neg, den_cmp, den_chain, den_and, den_or, den_not, den_ite, den_tup, den_lst, den_sub, den_rev, den_callv, exS_raise, exS_tryR, den_sl, den_call, den_blt, den_meth, denL_nil, denL_cons, WS_seq, WS_toS, WS_nx, WS_rt, WS_asB, WS_ite, WP_bind, WP_ok, WP_asB, WP_ite, bindP, setAll, List.set_cons_zero, List.set_cons_succ, List.getElem?_cons_zero, List.getElem?_cons_succ, decide_true, decide_false, if_true, if_false, Bool.false_eq_true, Bool.not_true, Bool.not_false, isNop, partR, o_add, o_sub, o_lt, o_le, o_gt, o_ge, o_eqi, o_nei, o_eqs, o_nes, o_in, o_notin, o_lent, o_lenl, o_lenc, o_abs, o_min, o_max, o_tupl, o_tupt, o_sll, fin_f, c]
                rw [isRow_len _ c, isRow_len _ c, isRow_len _ c, if_neg t2]
                have t1' : (w == TAB) = false := by simpa using t1
                rw [t1']
                simp [D.top]
      all_goals (simp -implicitDefEqProofs only [exB_cons, exB_nil, exS_expr, exS_set, exS_setSub, exS_fz, exS_ife, exS_ret, exS_pass, den_nop, den_c, den_v, den_bin, den_neg, den_cmp, den_chain, den_and, den_or, den_not, den_ite, den_tup, den_lst, den_sub, den_rev, den_callv, exS_raise, exS_tryR, den_sl, den_call, den_blt, den_meth, denL_nil, denL_cons, WS_seq, WS_toS, WS_nx, WS_rt, WS_asB, WS_ite, WP_bind, WP_ok, WP_asB, WP_ite, bindP, setAll, List.set_cons_zero, List.set_cons_succ, List.getElem?_cons_zero, List.getElem?_cons_succ, decide_true, decide_false, if_true, if_false, Bool.false_eq_true, Bool.not_true, Bool.not_false, isNop, partR, o_add, o_sub, o_lt, o_le, o_gt, o_ge, o_eqi, o_nei, o_eqs, o_nes, o_in, o_notin, o_lent, o_lenl, o_lenc, o_abs, o_min, o_max, o_tupl, o_tupt, o_sll, fin_f]; simp [isT, rd, isPlace, D.top, WS_rt])
  all_goals (simp -implicitDefEqProofs only [exB_cons, exB_nil, exS_expr, exS_set, exS_setSub, exS_fz, exS_ife, exS_ret, exS_pass, den_nop, den_c, den_v, den_bin, den_neg, den_cmp, den_chain, den_and, den_or, den_not, den_ite, den_tup, den_lst, den_sub, den_rev, den_callv, exS_raise, exS_tryR, den_sl, den_call, den_blt, den_meth, denL_nil, denL_cons, WS_seq, WS_toS, WS_nx, WS_rt, WS_asB, WS_ite, WP_bind, WP_ok, WP_asB, WP_ite, bindP, setAll, List.set_cons_zero, List.set_cons_succ, List.getElem?_cons_zero, List.getElem?_cons_succ, decide_true, decide_false, if_true, if_false, Bool.false_eq_true, Bool.not_true, Bool.not_false, isNop, partR, o_add, o_sub, o_lt, o_le, o_gt, o_ge, o_eqi, o_nei, o_eqs, o_nes, o_in, o_notin, o_lent, o_lenl, o_lenc, o_abs, o_min, o_max, o_tupl, o_tupt, o_sll, fin_f]; simp [isT, rd, isPlace, D.top, WP_ok, WS_rt])
end Lw_k03

set_option Elab.async false
set_option linter.all false
set_option autoImplicit false
set_option maxRecDepth 100000
set_option maxHeartbeats 4000000
namespace Lw_k03
open Fk L3
def stands (w : List Nat) (t : Fk.D) : Bool :=
  if (TAB == w || (COL == w || (ROW == w || false))) = true then isB true t
  else if (w == NAM) = true then isName t
  else if (w == SLT) = true then isId t
  else if (w == KND) = true then kindB t
  else isValue t
def isKey (w : List Nat) : Prop := w = TAB ∨ w = COL ∨ w = NAM ∨ w = SLT ∨ w = KND ∨ w = ELS ∨ w = ROW ∨ w = CEL
theorem place_key {w : List Nat} {b : Fk.D} {r : List Fk.D} (h : isPlace (.tup (.str w :: b :: r)) = true) : isKey w := by
  unfold isPlace rests at h
  simp only [Bool.and_eq_true] at h
  have h := h.2
  unfold isKey
  split at h
  · rename_i c
    simp only [Bool.or_eq_true, Bool.or_false, beq_iff_eq] at c
    rcases c with c | c | c | c
    · exact .inr (.inl c.symm)
    · exact .inr (.inr (.inl c.symm))
    · exact .inr (.inr (.inr (.inr (.inl c.symm))))
    · exact .inr (.inr (.inr (.inr (.inr (.inl c.symm)))))
  · split at h
    · rename_i c
      exact .inr (.inr (.inr (.inl (by simpa using c))))
    · split at h
      · rename_i c
        exact .inr (.inr (.inr (.inr (.inr (.inr (.inl (by simpa using c)))))))
      · split at h
        · rename_i c
          exact .inr (.inr (.inr (.inr (.inr (.inr (.inr (by simpa using c)))))))
        · simp only [Bool.and_eq_true, beq_iff_eq] at h
          exact .inl h.1
theorem place_tup {d : Fk.D} (h : isPlace d = true) : ∃ w b r, d = .tup (.str w :: b :: r) ∧ isKey w := by
  unfold isPlace at h
  split at h
  · rename_i w t rest
    refine ⟨w, t, rest, rfl, place_key (b := t) (r := rest) ?_⟩
    unfold isPlace; exact h
  · cases h
theorem e_value' (n : Nat) {d : Fk.D} (s : Fk.St) (h : ok1 d = true) : callF PP (n + 2) 6 [d] s = .ok (.bl (isValue d)) s := e_value (P := PP) (f := 6) (w := 3) (x := 0) rfl rfl rfl n s h
theorem e_fits (n : Nat) {w : List Nat} {b t : Fk.D} {r : List Fk.D} (s : Fk.St) (hw : isKey w) (ht : okD t = true) : callF PP (n + 5) 14 [.tup (.str w :: b :: r), t] s = .ok (.bl (stands w t)) s := by
  refine eq_of_wp ?_
  rw [callF_eq (fn := fn14) rfl rfl, WP_back]
  show WS (exB _ fn14.body [some (.tup (.str w :: b :: r)), some t, none] s) _ _
  have a1 : callF PP (n + 4) 11 [t] s = .ok (.bl (isB true t)) s := e_true (n + 3) s (ok1_kk (okD_1 ht))
  have a2 : callF PP (n + 4) 4 [t] s = .ok (.bl (isName t)) s := e_name' (n + 2) s (okD_1 ht)
  have a3 : callF PP (n + 4) 10 [t] s = .ok (.bl (isId t)) s := e_id' n s ht
  have a4 : callF PP (n + 4) 8 [t] s = .ok (.bl (kindB t)) s := e_kind (n + 3) s (ok1_kk (okD_1 ht))
  have a5 : callF PP (n + 4) 6 [t] s = .ok (.bl (isValue t)) s := e_value' (n + 2) s (okD_1 ht)
  have go : ∀ (f : Nat) (q : Bool), subD (.tab [[116, 97, 98, 108, 101], [99, 111, 108, 117, 109, 110], [110, 97, 109, 101], [115, 108, 111, 116], [107, 105, 110, 100], [101, 108, 115, 101], [114, 111, 119], [99, 101, 108, 108]] [.fn 11, .fn 11, .fn 4, .fn 10, .fn 8, .fn 6, .fn 11, .fn 6]) (.str w) s = .ok (.fn f) s → callF PP (n + 4) f [t] s = .ok (.bl q) s → stands w t = q →
      WS (exB (callF PP (n + 4)) fn14.body [some (.tup (.str w :: b :: r)), some t, none] s) (fun _ s' => Fk.D.none = .bl (stands w t) ∧ s'.take s.length = s) (fun d s' => d = .bl (stands w t) ∧ s'.take (max s.length d.top) = s) := by
    intro f q h1 h2 h3
    simp -implicitDefEqProofs only [exB_cons, exB_nil, exS_expr, exS_set, exS_setSub, exS_fz, exS_ife, exS_ret, exS_pass, den_nop, den_c, den_v, den_bin, den_neg, den_cmp, den_chain, den_and, den_or, den_not, den_ite, den_tup, den_lst, den_sub, den_rev, den_callv, exS_raise, exS_tryR, den_sl, den_call, den_blt, den_meth, denL_nil, denL_cons, WS_seq, WS_toS, WS_nx, WS_rt, WS_asB, WS_ite, WP_bind, WP_ok, WP_asB, WP_ite, bindP, setAll, List.set_cons_zero, List.set_cons_succ, List.getElem?_cons_zero, List.getElem?_cons_succ, decide_true, decide_false, if_true, if_false, Bool.false_eq_true, Bool.not_true, Bool.not_false, isNop, partR, o_add, o_sub, o_lt, o_le, o_gt, o_ge, o_eqi, o_nei, o_eqs, o_nes, o_in, o_notin, o_lent, o_lenl, o_lenc, o_abs, o_min, o_max, o_tupl, o_tupt, o_sll, fin_f, fn14, sub0, h1, h2, h3]
    simp [D.top]
  rcases hw with rfl | rfl | rfl | rfl | rfl | rfl | rfl | rfl
  · exact go 11 _ rfl a1 rfl
  · exact go 11 _ rfl a1 rfl
  · exact go 4 _ rfl a2 rfl
  · exact go 10 _ rfl a3 rfl
  · exact go 8 _ rfl a4 rfl
  · exact go 6 _ rfl a5 rfl
  · exact go 11 _ rfl a1 rfl
  · exact go 6 _ rfl a5 rfl
theorem value_str {z : List Nat} : isValue (.str z) = (isName (.str z) || z == KEY) := by
  unfold isValue isName near
  cases h : z == KEY
  · have h' : ¬ z = KEY := by simpa using h
    simp
    intro _; exact h'
  · have : z = KEY := by simpa using h
    subst this
    rfl
theorem near_abs {i : Int} : decide ((if i < 0 then -i else i) ≤ 1000000000) = near (.int i) := by
  show _ = (decide (-1000000000 ≤ i) && decide (i ≤ 1000000000))
  split
  · by_cases c : -1000000000 ≤ i
    · have c2 : i ≤ 1000000000 := by omega
      have c3 : -i ≤ 1000000000 := by omega
      simp [c, c2, c3]
    · have c3 : ¬ -i ≤ 1000000000 := by omega
      simp [c, c3]
  · by_cases c : i ≤ 1000000000
    · have c2 : -1000000000 ≤ i := by omega
      simp [c, c2]
    · simp [c]
theorem e_lstands (n : Nat) {w : List Nat} {b t : Fk.D} {r : List Fk.D} (s : Fk.St) (hw : isKey w) (ht : okD t = true) : callF PP (n + 3) 31 [.tup (.str w :: b :: r), t] s = .ok (.bl (stands w t)) s := by
  refine eq_of_wp ?_
  rw [callF_eq (fn := fn31) rfl rfl, WP_back]
  show WS (exB _ fn31.body [some (.tup (.str w :: b :: r)), some t, none] s) _ _
  have hk := ok1_kk (okD_1 ht)
  have a2 : callF PP (n + 2) 27 [t] s = .ok (.bl (isName t)) s := e_lname (n + 1) s (okD_1 ht)
  have a3 : callF PP (n + 2) 28 [t] s = .ok (.bl (isId t)) s := e_lid n s ht
  have a4 : callF PP (n + 2) 19 [t] s = .ok (.bl (isW t)) s := e_lwhole (n + 1) s hk
  simp -implicitDefEqProofs only [exB_cons, exB_nil, exS_expr, exS_set, exS_setSub, exS_fz, exS_ife, exS_ret, exS_pass, den_nop, den_c, den_v, den_bin, den_neg, den_cmp, den_chain, den_and, den_or, den_not, den_ite, den_tup, den_lst, den_sub, den_rev, den_callv, exS_raise, exS_tryR, den_sl, den_call, den_blt, den_meth, denL_nil, denL_cons, WS_seq, WS_toS, WS_nx, WS_rt, WS_asB, WS_ite, WP_bind, WP_ok, WP_asB, WP_ite, bindP, setAll, List.set_cons_zero, List.set_cons_succ, List.getElem?_cons_zero, List.getElem?_cons_succ, decide_true, decide_false, if_true, if_false, Bool.false_eq_true, Bool.not_true, Bool.not_false, isNop, partR, o_add, o_sub, o_lt, o_le, o_gt, o_ge, o_eqi, o_nei, o_eqs, o_nes, o_in, o_notin, o_lent, o_lenl, o_lenc, o_abs, o_min, o_max, o_tupl, o_tupt, o_sll, fin_f, fn31, sub0, o_in3l, o_isin hk, isT_kk hk, a2, a3, a4, cP9]
  have b1 : (w = TAB ∨ w = COL ∨ w = ROW) → stands w t = isB true t := by rintro (rfl | rfl | rfl) <;> rfl
  have bl : ∀ (Q : Fk.D → Fk.St → Prop), Q (.bl (isB true t)) s → (if isT [] 1 t = true then Q t s else Q (.bl false) s) := by
    intro Q hQ
    cases t <;> first | (cases hk; done) | (simpa [isT, rd, isB] using hQ) | skip
    all_goals (rename_i q; cases q <;> simpa [isT, rd, isB] using hQ)
  have kd : ∀ (Q : Fk.D → Fk.St → Prop), Q (.bl (kindB t)) s → (if isT [] 2 t = true then WP (cmpD .isin t (.lst [.str [110, 117, 109, 98, 101, 114], .str [119, 111, 114, 100], .str [97, 110, 121]]) s) Q else Q (.bl false) s) := by
    intro Q hQ
    cases t <;> first | (cases hk; done) | (simpa [isT, rd, kindB] using hQ) | skip
    rename_i z
    have e2 : isT [] 2 (.str z) = true := rfl
    rw [if_pos e2, o_in3l, WP_ok]
    simpa [kindB, NUM, WRD, ANY] using hQ
  have ev : ∀ (Q : Fk.D → Fk.St → Prop), Q (.bl (isValue t)) s → (if isT [] 2 t = true then (if isName t = true then Q (.bl true) s else WP (cmpD .eq t (.str [107, 101, 121]) s) Q) else (if isW t = true then WP (bltD .abs false [t] s) fun b s => WP (cmpD .le b (.int 1000000000) s) Q else Q (.bl false) s)) := by
    intro Q hQ
    cases t <;> first | (cases hk; done) | (simpa [isT, rd, isValue, isWord, near, isW] using hQ) | skip
    case int i =>
      have e2 : isT [] 2 (.int i) = false := rfl
      simp -implicitDefEqProofs only [exB_cons, exB_nil, exS_expr, exS_set, exS_setSub, exS_fz, exS_ife, exS_ret, exS_pass, den_nop, den_c, den_v, den_bin, den_neg, den_cmp, den_chain, den_and, den_or, den_not, den_ite, den_tup, den_lst, den_sub, den_rev, den_callv, exS_raise, exS_tryR, den_sl, den_call, den_blt, den_meth, denL_nil, denL_cons, WS_seq, WS_toS, WS_nx, WS_rt, WS_asB, WS_ite, WP_bind, WP_ok, WP_asB, WP_ite, bindP, setAll, List.set_cons_zero, List.set_cons_succ, List.getElem?_cons_zero, List.getElem?_cons_succ, decide_true, decide_false, if_true, if_false, Bool.false_eq_true, Bool.not_true, Bool.not_false, isNop, partR, o_add, o_sub, o_lt, o_le, o_gt, o_ge, o_eqi, o_nei, o_eqs, o_nes, o_in, o_notin, o_lent, o_lenl, o_lenc, o_abs, o_min, o_max, o_tupl, o_tupt, o_sll, fin_f, e2, isW]
      rw [near_abs]
      simpa [isValue, isWord] using hQ
    case str z =>
      have e2 : isT [] 2 (.str z) = true := rfl
      rw [value_str] at hQ
      simp -implicitDefEqProofs only [exB_cons, exB_nil, exS_expr, exS_set, exS_setSub, exS_fz, exS_ife, exS_ret, exS_pass, den_nop, den_c, den_v, den_bin, den_neg, den_cmp, den_chain, den_and, den_or, den_not, den_ite, den_tup, den_lst, den_sub, den_rev, den_callv, exS_raise, exS_tryR, den_sl, den_call, den_blt, den_meth, denL_nil, denL_cons, WS_seq, WS_toS, WS_nx, WS_rt, WS_asB, WS_ite, WP_bind, WP_ok, WP_asB, WP_ite, bindP, setAll, List.set_cons_zero, List.set_cons_succ, List.getElem?_cons_zero, List.getElem?_cons_succ, decide_true, decide_false, if_true, if_false, Bool.false_eq_true, Bool.not_true, Bool.not_false, isNop, partR, o_add, o_sub, o_lt, o_le, o_gt, o_ge, o_eqi, o_nei, o_eqs, o_nes, o_in, o_notin, o_lent, o_lenl, o_lenc, o_abs, o_min, o_max, o_tupl, o_tupt, o_sll, fin_f, e2]
      cases q : isName (.str z)
      · simp -implicitDefEqProofs only [exB_cons, exB_nil, exS_expr, exS_set, exS_setSub, exS_fz, exS_ife, exS_ret, exS_pass, den_nop, den_c, den_v, den_bin, den_neg, den_cmp, den_chain, den_and, den_or, den_not, den_ite, den_tup, den_lst, den_sub, den_rev, den_callv, exS_raise, exS_tryR, den_sl, den_call, den_blt, den_meth, denL_nil, denL_cons, WS_seq, WS_toS, WS_nx, WS_rt, WS_asB, WS_ite, WP_bind, WP_ok, WP_asB, WP_ite, bindP, setAll, List.set_cons_zero, List.set_cons_succ, List.getElem?_cons_zero, List.getElem?_cons_succ, decide_true, decide_false, if_true, if_false, Bool.false_eq_true, Bool.not_true, Bool.not_false, isNop, partR, o_add, o_sub, o_lt, o_le, o_gt, o_ge, o_eqi, o_nei, o_eqs, o_nes, o_in, o_notin, o_lent, o_lenl, o_lenc, o_abs, o_min, o_max, o_tupl, o_tupt, o_sll, fin_f]
        rw [q] at hQ
        exact hQ
      · simp -implicitDefEqProofs only [exB_cons, exB_nil, exS_expr, exS_set, exS_setSub, exS_fz, exS_ife, exS_ret, exS_pass, den_nop, den_c, den_v, den_bin, den_neg, den_cmp, den_chain, den_and, den_or, den_not, den_ite, den_tup, den_lst, den_sub, den_rev, den_callv, exS_raise, exS_tryR, den_sl, den_call, den_blt, den_meth, denL_nil, denL_cons, WS_seq, WS_toS, WS_nx, WS_rt, WS_asB, WS_ite, WP_bind, WP_ok, WP_asB, WP_ite, bindP, setAll, List.set_cons_zero, List.set_cons_succ, List.getElem?_cons_zero, List.getElem?_cons_succ, decide_true, decide_false, if_true, if_false, Bool.false_eq_true, Bool.not_true, Bool.not_false, isNop, partR, o_add, o_sub, o_lt, o_le, o_gt, o_ge, o_eqi, o_nei, o_eqs, o_nes, o_in, o_notin, o_lent, o_lenl, o_lenc, o_abs, o_min, o_max, o_tupl, o_tupt, o_sll, fin_f]
        rw [q] at hQ
        exact hQ
  have n1 : ¬ (([116, 97, 98, 108, 101] == NAM || ([99, 111, 108, 117, 109, 110] == NAM || ([114, 111, 119] == NAM || false))) = true) := by decide
  have n2 : ¬ (([116, 97, 98, 108, 101] == SLT || ([99, 111, 108, 117, 109, 110] == SLT || ([114, 111, 119] == SLT || false))) = true) := by decide
  have n3 : ¬ (([116, 97, 98, 108, 101] == KND || ([99, 111, 108, 117, 109, 110] == KND || ([114, 111, 119] == KND || false))) = true) := by decide
  have n4 : ¬ (([116, 97, 98, 108, 101] == ELS || ([99, 111, 108, 117, 109, 110] == ELS || ([114, 111, 119] == ELS || false))) = true) := by decide
  have n5 : ¬ (([116, 97, 98, 108, 101] == CEL || ([99, 111, 108, 117, 109, 110] == CEL || ([114, 111, 119] == CEL || false))) = true) := by decide
  rcases hw with rfl | rfl | rfl | rfl | rfl | rfl | rfl | rfl
  · rw [if_pos (by decide)]
    exact bl (fun d s' => d = .bl (stands TAB t) ∧ List.take (max (List.length s) d.top) s' = s) ⟨rfl, top0⟩
  · rw [if_pos (by decide)]
    exact bl (fun d s' => d = .bl (stands COL t) ∧ List.take (max (List.length s) d.top) s' = s) ⟨rfl, top0⟩
  · rw [if_neg n1, if_pos (by decide)]
    exact ⟨rfl, top0⟩
  · rw [if_neg n2, if_neg (by decide), if_pos (by decide)]
    exact ⟨rfl, top0⟩
  · rw [if_neg n3, if_neg (by decide), if_neg (by decide), if_pos (by decide)]
    exact kd (fun d s' => d = .bl (stands KND t) ∧ List.take (max (List.length s) d.top) s' = s) ⟨rfl, top0⟩
  · rw [if_neg n4, if_neg (by decide), if_neg (by decide), if_neg (by decide)]
    exact ev (fun d s' => d = .bl (stands ELS t) ∧ List.take (max (List.length s) d.top) s' = s) ⟨rfl, top0⟩
  · rw [if_pos (by decide)]
    exact bl (fun d s' => d = .bl (stands ROW t) ∧ List.take (max (List.length s) d.top) s' = s) ⟨rfl, top0⟩
  · rw [if_neg n5, if_neg (by decide), if_neg (by decide), if_neg (by decide)]
    exact ev (fun d s' => d = .bl (stands CEL t) ∧ List.take (max (List.length s) d.top) s' = s) ⟨rfl, top0⟩
/-! ### refusals -/
theorem e_need (n : Nat) {d : Fk.D} (s : Fk.St) (h : okP d = true) (hp : isPlace d = true) : callF PP (n + 6) 13 [d] s = .ok .none s := by
  refine eq_of_wp ?_
  rw [callF_eq (fn := fn13) rfl rfl, WP_back]
  show WS (exB _ fn13.body [some d] s) _ _
  have a : callF PP (n + 5) 12 [d] s = .ok (.bl true) s := by rw [e_place n s h, hp]
  simp -implicitDefEqProofs only [exB_cons, exB_nil, exS_expr, exS_set, exS_setSub, exS_fz, exS_ife, exS_ret, exS_pass, den_nop, den_c, den_v, den_bin, den_neg, den_cmp, den_chain, den_and, den_or, den_not, den_ite, den_tup, den_lst, den_sub, den_rev, den_callv, exS_raise, exS_tryR, den_sl, den_call, den_blt, den_meth, denL_nil, denL_cons, WS_seq, WS_toS, WS_nx, WS_rt, WS_asB, WS_ite, WP_bind, WP_ok, WP_asB, WP_ite, bindP, setAll, List.set_cons_zero, List.set_cons_succ, List.getElem?_cons_zero, List.getElem?_cons_succ, decide_true, decide_false, if_true, if_false, Bool.false_eq_true, Bool.not_true, Bool.not_false, isNop, partR, o_add, o_sub, o_lt, o_le, o_gt, o_ge, o_eqi, o_nei, o_eqs, o_nes, o_in, o_notin, o_lent, o_lenl, o_lenc, o_abs, o_min, o_max, o_tupl, o_tupt, o_sll, fin_f, fn13, a]
  simp
theorem take_self {s : Fk.St} : s.take (max s.length 0) = s := by simp
theorem e_needx (n : Nat) {d : Fk.D} (s : Fk.St) (h : okP d = true) (hp : isPlace d = false) : callF PP (n + 6) 13 [d] s = .err ⟨0, Option.none⟩ s := by
  rw [callF_eq (fn := fn13) rfl rfl]
  have a : callF PP (n + 5) 12 [d] s = .ok (.bl false) s := by rw [e_place n s h, hp]
  have e : exB (callF PP (n + 5)) fn13.body (Fk.start fn13 [d]) s = .err ⟨0, Option.none⟩ [some d] s := by
    show exB (callF PP (n + 5)) [.ife (.not (.call 12 [.v 0])) [.raise 0] []] [some d] s = _
    rw [exB_cons, exS_ife, den_not, den_call, denL_cons, den_v]
    simp -implicitDefEqProofs only [List.getElem?_cons_zero, R.bind_ok, denL_nil, a, exB_cons, exS_raise]
    rfl
  rw [e]
  show R.err _ (s.take (max s.length 0)) = _
  rw [take_self]
theorem e_table (n : Nat) {d : Fk.D} (s : Fk.St) (h : okP d = true) (hp : isPlace d = true) : ∃ w b r, d = .tup (.str w :: b :: r) ∧ isKey w ∧ isName b = true ∧ callF PP (n + 7) 15 [d] s = .ok b s := by
  obtain ⟨w, b, r, rfl, hw⟩ := place_tup hp
  have hn : isName b = true := by
    unfold isPlace at hp
    simp only [Bool.and_eq_true] at hp
    exact hp.1
  refine ⟨w, b, r, rfl, hw, hn, eq_of_wp ?_⟩
  rw [callF_eq (fn := fn15) rfl rfl, WP_back]
  show WS (exB _ fn15.body [some (.tup (.str w :: b :: r))] s) _ _
  have a := e_need n s h hp
  have tb : b.top = 0 := by cases b <;> first | (cases hn; done) | rfl
  simp -implicitDefEqProofs only [exB_cons, exB_nil, exS_expr, exS_set, exS_setSub, exS_fz, exS_ife, exS_ret, exS_pass, den_nop, den_c, den_v, den_bin, den_neg, den_cmp, den_chain, den_and, den_or, den_not, den_ite, den_tup, den_lst, den_sub, den_rev, den_callv, exS_raise, exS_tryR, den_sl, den_call, den_blt, den_meth, denL_nil, denL_cons, WS_seq, WS_toS, WS_nx, WS_rt, WS_asB, WS_ite, WP_bind, WP_ok, WP_asB, WP_ite, bindP, setAll, List.set_cons_zero, List.set_cons_succ, List.getElem?_cons_zero, List.getElem?_cons_succ, decide_true, decide_false, if_true, if_false, Bool.false_eq_true, Bool.not_true, Bool.not_false, isNop, partR, o_add, o_sub, o_lt, o_le, o_gt, o_ge, o_eqi, o_nei, o_eqs, o_nes, o_in, o_notin, o_lent, o_lenl, o_lenc, o_abs, o_min, o_max, o_tupl, o_tupt, o_sll, fin_f, fn15, a, sub1]
  simp [tb]
theorem e_tablex (n : Nat) {d : Fk.D} (s : Fk.St) (h : okP d = true) (hp : isPlace d = false) : callF PP (n + 7) 15 [d] s = .err ⟨0, Option.none⟩ s := by
  rw [callF_eq (fn := fn15) rfl rfl]
  have a := e_needx n s h hp
  have e : exB (callF PP (n + 6)) fn15.body (Fk.start fn15 [d]) s = .err ⟨0, Option.none⟩ [some d] s := by
    show exB (callF PP (n + 6)) [.expr (.call 13 [.v 0]), .ret (.sub (.v 0) (.c (.int 1)))] [some d] s = _
    rw [exB_cons, exS_expr, den_call, denL_cons, den_v]
    simp -implicitDefEqProofs only [List.getElem?_cons_zero, R.bind_ok, denL_nil, a]
    rfl
  rw [e]
  show R.err _ (s.take (max s.length 0)) = _
  rw [take_self]
theorem e_may (n : Nat) {d t : Fk.D} (s : Fk.St) (h : okP d = true) (ht : okD t = true) (hp : isPlace d = true) : ∃ w b r, d = .tup (.str w :: b :: r) ∧ isKey w ∧ callF PP (n + 7) 16 [d, t] s = .ok (.bl (stands w t)) s := by
  obtain ⟨w, b, r, rfl, hw⟩ := place_tup hp
  refine ⟨w, b, r, rfl, hw, eq_of_wp ?_⟩
  rw [callF_eq (fn := fn16) rfl rfl, WP_back]
  show WS (exB _ fn16.body [some (.tup (.str w :: b :: r)), some t] s) _ _
  have a := e_need n s h hp
  have a2 := e_fits (b := b) (r := r) (n + 1) s hw ht
  simp -implicitDefEqProofs only [exB_cons, exB_nil, exS_expr, exS_set, exS_setSub, exS_fz, exS_ife, exS_ret, exS_pass, den_nop, den_c, den_v, den_bin, den_neg, den_cmp, den_chain, den_and, den_or, den_not, den_ite, den_tup, den_lst, den_sub, den_rev, den_callv, exS_raise, exS_tryR, den_sl, den_call, den_blt, den_meth, denL_nil, denL_cons, WS_seq, WS_toS, WS_nx, WS_rt, WS_asB, WS_ite, WP_bind, WP_ok, WP_asB, WP_ite, bindP, setAll, List.set_cons_zero, List.set_cons_succ, List.getElem?_cons_zero, List.getElem?_cons_succ, decide_true, decide_false, if_true, if_false, Bool.false_eq_true, Bool.not_true, Bool.not_false, isNop, partR, o_add, o_sub, o_lt, o_le, o_gt, o_ge, o_eqi, o_nei, o_eqs, o_nes, o_in, o_notin, o_lent, o_lenl, o_lenc, o_abs, o_min, o_max, o_tupl, o_tupt, o_sll, fin_f, fn16, a, a2]
  simp [D.top]
theorem e_mayx (n : Nat) {d t : Fk.D} (s : Fk.St) (h : okP d = true) (hp : isPlace d = false) : callF PP (n + 7) 16 [d, t] s = .err ⟨0, Option.none⟩ s := by
  rw [callF_eq (fn := fn16) rfl rfl]
  have a := e_needx n s h hp
  have e : exB (callF PP (n + 6)) fn16.body (Fk.start fn16 [d, t]) s = .err ⟨0, Option.none⟩ [some d, some t] s := by
    show exB (callF PP (n + 6)) [.expr (.call 13 [.v 0]), .ret (.call 14 [.v 0, .v 1])] [some d, some t] s = _
    rw [exB_cons, exS_expr, den_call, denL_cons, den_v]
    simp -implicitDefEqProofs only [List.getElem?_cons_zero, R.bind_ok, denL_nil, a]
    rfl
  rw [e]
  show R.err _ (s.take (max s.length 0)) = _
  rw [take_self]
end Lw_k03

set_option Elab.async false
set_option linter.all false
set_option autoImplicit false
set_option maxRecDepth 100000
set_option maxHeartbeats 4000000
namespace Lw_k03
open Fk L3
def REF : Fk.D := .lst [.str [114, 101, 102, 117, 115, 101, 100], .bl true]
theorem caught_ok {m : List Nat} {es : List SuE} {f : Fl} {s : Fk.St} : (RS.ok f s).caught m es = .ok f s := rfl
theorem told_body0 {cf : CF} {d t : Fk.D} {e : Option Fk.D} {s : Fk.St} : exB cf [.ife (.cmp .eq (.v 0) (.c (.int 0))) [.ret (.call 15 [.v 1])] [], .ret (.call 16 [.v 1, .v 2])] [some (.int 0), some d, some t, e] s = (cf 15 [d] s).toS [some (.int 0), some d, some t, e] fun d s => .ok (.rt d) s := by
  rw [exB_cons, exS_ife, den_cmp, den_v]
  simp -implicitDefEqProofs only [List.getElem?_cons_zero, R.bind_ok, den_c, o_eqi]
  show ((exB cf [.ret (.call 15 [.v 1])] [some (.int 0), some d, some t, e] s)).seq _ = _
  rw [exB_cons, exS_ret, den_call, denL_cons, den_v]
  simp -implicitDefEqProofs only [List.getElem?_cons_zero, List.getElem?_cons_succ, R.bind_ok, denL_nil]
  cases cf 15 [d] s <;> rfl
theorem told_body1 {cf : CF} {d t : Fk.D} {e : Option Fk.D} {s : Fk.St} : exB cf [.ife (.cmp .eq (.v 0) (.c (.int 0))) [.ret (.call 15 [.v 1])] [], .ret (.call 16 [.v 1, .v 2])] [some (.int 1), some d, some t, e] s = (cf 16 [d, t] s).toS [some (.int 1), some d, some t, e] fun d s => .ok (.rt d) s := by
  rw [exB_cons, exS_ife, den_cmp, den_v]
  simp -implicitDefEqProofs only [List.getElem?_cons_zero, R.bind_ok, den_c, o_eqi]
  show (exB cf [] [some (.int 1), some d, some t, e] s).seq _ = _
  rw [exB_nil]
  show exB cf [.ret (.call 16 [.v 1, .v 2])] [some (.int 1), some d, some t, e] s = _
  rw [exB_cons, exS_ret, den_call, denL_cons, den_v]
  simp -implicitDefEqProofs only [List.getElem?_cons_zero, List.getElem?_cons_succ, R.bind_ok, denL_nil, denL_cons, den_v]
  cases cf 16 [d, t] s <;> rfl
theorem told_call {n : Nat} {k : Int} {d t : Fk.D} {s : Fk.St} {r : RS} (h : (exB (callF PP n) [.ife (.cmp .eq (.v 0) (.c (.int 0))) [.ret (.call 15 [.v 1])] [], .ret (.call 16 [.v 1, .v 2])] [some (.int k), some d, some t, none] s).caught [0, 1] [.k (.str [114, 101, 102, 117, 115, 101, 100]), .isx 0 [0]] = r) :
    callF PP (n + 1) 32 [.int k, d, t] s = back s (r.seq fun env s => .ok (.nx env) s) := by
  rw [callF_eq (fn := fn32) rfl rfl]
  show back s (exB (callF PP n) fn32.body [some (.int k), some d, some t, none] s) = _
  rw [fn32, exB_cons, exS_tryR, h]
  congr 1
  try (cases r with
  | ok f s => cases f <;> first | rfl | rw [RS.seq, RS.seq, exB_nil]
  | err _ _ _ => rfl
  | bad => rfl)
theorem told_bad0 (n : Nat) {d t : Fk.D} (s : Fk.St) (h : okP d = true) (hp : isPlace d = false) : callF PP (n + 8) 32 [.int 0, d, t] s = .ok REF s := by
  rw [told_call (n := n + 7) (k := 0) (by rw [told_body0, e_tablex n s h hp])]
  show R.ok REF (s.take (max s.length 0)) = _
  rw [take_self]
theorem told_bad1 (n : Nat) {d t : Fk.D} (s : Fk.St) (h : okP d = true) (hp : isPlace d = false) : callF PP (n + 8) 32 [.int 1, d, t] s = .ok REF s := by
  rw [told_call (n := n + 7) (k := 1) (by rw [told_body1, e_mayx n s h hp])]
  show R.ok REF (s.take (max s.length 0)) = _
  rw [take_self]
theorem told_ok0 (n : Nat) {d t : Fk.D} (s : Fk.St) (h : okP d = true) (hp : isPlace d = true) : ∃ w b r, d = .tup (.str w :: b :: r) ∧ isKey w ∧ isName b = true ∧ callF PP (n + 8) 32 [.int 0, d, t] s = .ok b s := by
  obtain ⟨w, b, r, rfl, hw, hn, e⟩ := e_table n s h hp
  refine ⟨w, b, r, rfl, hw, hn, ?_⟩
  rw [told_call (n := n + 7) (k := 0) (by rw [told_body0, e])]
  have tb : b.top = 0 := by cases b <;> first | (cases hn; done) | rfl
  show R.ok b (s.take (max s.length b.top)) = _
  rw [tb, take_self]
theorem told_ok1 (n : Nat) {d t : Fk.D} (s : Fk.St) (h : okP d = true) (ht : okD t = true) (hp : isPlace d = true) : ∃ w b r, d = .tup (.str w :: b :: r) ∧ isKey w ∧ callF PP (n + 8) 32 [.int 1, d, t] s = .ok (.bl (stands w t)) s := by
  obtain ⟨w, b, r, rfl, hw, e⟩ := e_may n s h ht hp
  refine ⟨w, b, r, rfl, hw, ?_⟩
  rw [told_call (n := n + 7) (k := 1) (by rw [told_body1, e])]
  show R.ok (Fk.D.bl (stands w t)) (s.take (max s.length 0)) = _
  rw [take_self]
theorem e_right (n : Nat) {d t : Fk.D} (s : Fk.St) (h : okP d = true) (ht : okD t = true) : callF PP (n + 9) 33 [d, t] s = .ok (.bl true) s := by
  refine eq_of_wp ?_
  rw [callF_eq (fn := fn33) rfl rfl, WP_back]
  show WS (exB _ fn33.body [some d, some t, none, none, none] s) _ _
  have a1 : callF PP (n + 8) 30 [d] s = .ok (.bl (isPlace d)) s := e_lplace (n + 5) s h
  have a2 : callF PP (n + 8) 12 [d] s = .ok (.bl (isPlace d)) s := e_place (n + 3) s h
  have bb : ∀ b : Bool, bltD (.isinst 1) false [.bl b, .ty 1] s = .ok (.bl true) s := fun _ => rfl
  have ne : ∀ b : Bool, cmpD .ne (.bl b) (.bl b) s = .ok (.bl false) s := fun b => by cases b <;> rfl
  have eqb : ∀ b : Bool, cmpD .eq (.bl b) (.bl b) s = .ok (.bl true) s := fun b => by cases b <;> rfl
  cases hp : isPlace d with
  | false =>
    rw [hp] at a1 a2
    have c1 := told_bad0 (t := t) n s h hp
    have c2 := told_bad1 (t := t) n s h hp
    have er : cmpD .eq REF (.lst [.str [114, 101, 102, 117, 115, 101, 100], .bl true]) s = .ok (.bl true) s := rfl
    simp -implicitDefEqProofs only [exB_cons, exB_nil, exS_expr, exS_set, exS_setSub, exS_fz, exS_ife, exS_ret, exS_pass, den_nop, den_c, den_v, den_bin, den_neg, den_cmp, den_chain, den_and, den_or, den_not, den_ite, den_tup, den_lst, den_sub, den_rev, den_callv, exS_raise, exS_tryR, den_sl, den_call, den_blt, den_meth, denL_nil, denL_cons, WS_seq, WS_toS, WS_nx, WS_rt, WS_asB, WS_ite, WP_bind, WP_ok, WP_asB, WP_ite, bindP, setAll, List.set_cons_zero, List.set_cons_succ, List.getElem?_cons_zero, List.getElem?_cons_succ, decide_true, decide_false, if_true, if_false, Bool.false_eq_true, Bool.not_true, Bool.not_false, isNop, partR, o_add, o_sub, o_lt, o_le, o_gt, o_ge, o_eqi, o_nei, o_eqs, o_nes, o_in, o_notin, o_lent, o_lenl, o_lenc, o_abs, o_min, o_max, o_tupl, o_tupt, o_sll, fin_f, fn33, a1, a2, bb, ne, c1, c2, er]
    simp [D.top]
  | true =>
    rw [hp] at a1 a2
    obtain ⟨w, b, r, e, hw, hn, c1⟩ := told_ok0 (t := t) n s h hp
    obtain ⟨w', b', r', e', hw', c2⟩ := told_ok1 n s h ht hp
    subst e
    cases e'
    have c3 : callF PP (n + 8) 31 [.tup (.str w :: b :: r), t] s = .ok (.bl (stands w t)) s := e_lstands (n + 5) s hw ht
    have eb : cmpD .eq b b s = .ok (.bl true) s := by
      cases b <;> first | (cases hn; done) | skip
      rw [o_eqs]; simp
    simp -implicitDefEqProofs only [exB_cons, exB_nil, exS_expr, exS_set, exS_setSub, exS_fz, exS_ife, exS_ret, exS_pass, den_nop, den_c, den_v, den_bin, den_neg, den_cmp, den_chain, den_and, den_or, den_not, den_ite, den_tup, den_lst, den_sub, den_rev, den_callv, exS_raise, exS_tryR, den_sl, den_call, den_blt, den_meth, denL_nil, denL_cons, WS_seq, WS_toS, WS_nx, WS_rt, WS_asB, WS_ite, WP_bind, WP_ok, WP_asB, WP_ite, bindP, setAll, List.set_cons_zero, List.set_cons_succ, List.getElem?_cons_zero, List.getElem?_cons_succ, decide_true, decide_false, if_true, if_false, Bool.false_eq_true, Bool.not_true, Bool.not_false, isNop, partR, o_add, o_sub, o_lt, o_le, o_gt, o_ge, o_eqi, o_nei, o_eqs, o_nes, o_in, o_notin, o_lent, o_lenl, o_lenc, o_abs, o_min, o_max, o_tupl, o_tupt, o_sll, fin_f, fn33, a1, a2, bb, ne, eqb, c1, c2, c3, sub1, eb]
    simp [D.top]
end Lw_k03

set_option Elab.async false
set_option linter.all false
set_option autoImplicit false
set_option maxRecDepth 100000
set_option maxHeartbeats 4000000
namespace Lw_k03
open Fk L3
theorem take_ (n : Nat) {r c : Nat} {many : Int} {s : Fk.St} {Q : Fk.D → Fk.St → Prop} (hp : Pot s r c) (hc : c ≤ 1000000) (hm : 0 < many) (lm : many.natAbs.log2 < 9000)
    (h : ∀ x s', 0 ≤ x → x < many → Drew s r c 1 s' → Q (.int x) s') : WP (callF PP (n + 1) 18 [.ref r, .int many] s) Q :=
  wp_take (P := PP) (f := 18) rfl hp (Nat.le_trans hc (by decide)) hm lm h
theorem jlen1 {zs : List (List Nat)} (h : ∀ z ∈ zs, z.length = 1) : (joinT [] zs).length ≤ zs.length := by
  have := joinT_len [] zs
  rw [show ([] : List Nat).length = 0 from rfl, lenSum_one zs h] at this
  exact this
theorem d_word (n : Nat) {r c : Nat} {s : Fk.St} {Q : Fk.D → Fk.St → Prop} (hp : Pot s r c) (hc : c ≤ 10000) (h : ∀ z s', z.length ≤ 30 → Drew s r c 10 s' → Q (.str z) s') : WP (callF PP (n + 2) 20 [.ref r] s) Q := by
  rw [callF_eq (fn := fn20) rfl rfl, WP_back]
  show WS (exB _ fn20.body [some (.ref r), none, none, none] s) _ _
  simp -implicitDefEqProofs only [exB_cons, exB_nil, exS_expr, exS_set, exS_setSub, exS_fz, exS_ife, exS_ret, exS_pass, den_nop, den_c, den_v, den_bin, den_neg, den_cmp, den_chain, den_and, den_or, den_not, den_ite, den_tup, den_lst, den_sub, den_rev, den_callv, exS_raise, exS_tryR, den_sl, den_call, den_blt, den_meth, denL_nil, denL_cons, WS_seq, WS_toS, WS_nx, WS_rt, WS_asB, WS_ite, WP_bind, WP_ok, WP_asB, WP_ite, bindP, setAll, List.set_cons_zero, List.set_cons_succ, List.getElem?_cons_zero, List.getElem?_cons_succ, decide_true, decide_false, if_true, if_false, Bool.false_eq_true, Bool.not_true, Bool.not_false, isNop, partR, o_add, o_sub, o_lt, o_le, o_gt, o_ge, o_eqi, o_nei, o_eqs, o_nes, o_in, o_notin, o_lent, o_lenl, o_lenc, o_abs, o_min, o_max, o_tupl, o_tupt, o_sll, fin_f, fn20]
  refine take_ n hp (by omega) (by decide) (by decide +kernel) fun x s1 x0 x1 d1 => ?_
  (try simp -implicitDefEqProofs only [exB_cons, exB_nil, exS_expr, exS_set, exS_setSub, exS_fz, exS_ife, exS_ret, exS_pass, den_nop, den_c, den_v, den_bin, den_neg, den_cmp, den_chain, den_and, den_or, den_not, den_ite, den_tup, den_lst, den_sub, den_rev, den_callv, exS_raise, exS_tryR, den_sl, den_call, den_blt, den_meth, denL_nil, denL_cons, WS_seq, WS_toS, WS_nx, WS_rt, WS_asB, WS_ite, WP_bind, WP_ok, WP_asB, WP_ite, bindP, setAll, List.set_cons_zero, List.set_cons_succ, List.getElem?_cons_zero, List.getElem?_cons_succ, decide_true, decide_false, if_true, if_false, Bool.false_eq_true, Bool.not_true, Bool.not_false, isNop, partR, o_add, o_sub, o_lt, o_le, o_gt, o_ge, o_eqi, o_nei, o_eqs, o_nes, o_in, o_notin, o_lent, o_lenl, o_lenc, o_abs, o_min, o_max, o_tupl, o_tupt, o_sll, fin_f])
  refine take_ n d1.pot (by omega) (by decide) (by decide +kernel) fun y s2 y0 y1 d2 => ?_
  refine wp_at y0 (by simp; omega) fun dm hm => ?_
  obtain ⟨m, rfl, m0, m1⟩ : ∃ m : Int, dm = .int m ∧ 0 ≤ m ∧ m ≤ 8 := by
    simp only [List.mem_cons, List.not_mem_nil, or_false] at hm
    rcases hm with rfl | rfl | rfl
    · exact ⟨_, rfl, by decide, by decide⟩
    · exact ⟨_, rfl, by decide, by decide⟩
    · exact ⟨_, rfl, by omega, by omega⟩
  have D2 : Drew s r c 2 s2 := d1.to d2 (by omega)
  have far0 : -far ≤ m := by unfold far; omega
  have far1 : m ≤ sizeLine := by unfold sizeLine; omega
  simp -implicitDefEqProofs only [exB_cons, exB_nil, exS_expr, exS_set, exS_setSub, exS_fz, exS_ife, exS_ret, exS_pass, den_nop, den_c, den_v, den_bin, den_neg, den_cmp, den_chain, den_and, den_or, den_not, den_ite, den_tup, den_lst, den_sub, den_rev, den_callv, exS_raise, exS_tryR, den_sl, den_call, den_blt, den_meth, denL_nil, denL_cons, WS_seq, WS_toS, WS_nx, WS_rt, WS_asB, WS_ite, WP_bind, WP_ok, WP_asB, WP_ite, bindP, setAll, List.set_cons_zero, List.set_cons_succ, List.getElem?_cons_zero, List.getElem?_cons_succ, decide_true, decide_false, if_true, if_false, Bool.false_eq_true, Bool.not_true, Bool.not_false, isNop, partR, o_add, o_sub, o_lt, o_le, o_gt, o_ge, o_eqi, o_nei, o_eqs, o_nes, o_in, o_notin, o_lent, o_lenl, o_lenc, o_abs, o_min, o_max, o_tupl, o_tupt, o_sll, fin_f, den_lc, it_rng far0 far1]
  refine wp_lc (fun i acc s' => ∃ zs : List (List Nat), acc = zs.map D.str ∧ (∀ z ∈ zs, z.length = 1) ∧ zs.length = i ∧ Drew s2 r (c + 2) i s') ⟨[], rfl, fun z hz => (by cases hz), rfl, Drew.refl D2.pot⟩ (fun i d acc s3 hi ⟨zs, ha, hz, hl, d3⟩ => ?_) (fun acc s3 ⟨zs, ha, hz, hl, d3⟩ => ?_)
  · have hi10 : i < 8 := by
      have := (List.getElem?_eq_some_iff.mp hi).1
      rw [List.length_map, List.length_range] at this
      omega
    simp -implicitDefEqProofs only [exB_cons, exB_nil, exS_expr, exS_set, exS_setSub, exS_fz, exS_ife, exS_ret, exS_pass, den_nop, den_c, den_v, den_bin, den_neg, den_cmp, den_chain, den_and, den_or, den_not, den_ite, den_tup, den_lst, den_sub, den_rev, den_callv, exS_raise, exS_tryR, den_sl, den_call, den_blt, den_meth, denL_nil, denL_cons, WS_seq, WS_toS, WS_nx, WS_rt, WS_asB, WS_ite, WP_bind, WP_ok, WP_asB, WP_ite, bindP, setAll, List.set_cons_zero, List.set_cons_succ, List.getElem?_cons_zero, List.getElem?_cons_succ, decide_true, decide_false, if_true, if_false, Bool.false_eq_true, Bool.not_true, Bool.not_false, isNop, partR, o_add, o_sub, o_lt, o_le, o_gt, o_ge, o_eqi, o_nei, o_eqs, o_nes, o_in, o_notin, o_lent, o_lenl, o_lenc, o_abs, o_min, o_max, o_tupl, o_tupt, o_sll, fin_f, Pat.slots, Fk.wipe, WP_noErr]
    refine take_ n d3.pot (by omega) (by decide) (by decide +kernel) fun x s4 x0 x1 d4 => ?_
    obtain ⟨ch, hch, e⟩ := o_subs (s := s4) (z := [97, 98, 99, 100, 101, 102, 103, 104, 105, 106, 107, 108, 109, 110, 111, 112, 113, 114, 115, 116, 117, 118, 119, 120, 121, 122]) (i := x) (by decide) x0 (by simp; omega)
    rw [e]
    simp -implicitDefEqProofs only [exB_cons, exB_nil, exS_expr, exS_set, exS_setSub, exS_fz, exS_ife, exS_ret, exS_pass, den_nop, den_c, den_v, den_bin, den_neg, den_cmp, den_chain, den_and, den_or, den_not, den_ite, den_tup, den_lst, den_sub, den_rev, den_callv, exS_raise, exS_tryR, den_sl, den_call, den_blt, den_meth, denL_nil, denL_cons, WS_seq, WS_toS, WS_nx, WS_rt, WS_asB, WS_ite, WP_bind, WP_ok, WP_asB, WP_ite, bindP, setAll, List.set_cons_zero, List.set_cons_succ, List.getElem?_cons_zero, List.getElem?_cons_succ, decide_true, decide_false, if_true, if_false, Bool.false_eq_true, Bool.not_true, Bool.not_false, isNop, partR, o_add, o_sub, o_lt, o_le, o_gt, o_ge, o_eqi, o_nei, o_eqs, o_nes, o_in, o_notin, o_lent, o_lenl, o_lenc, o_abs, o_min, o_max, o_tupl, o_tupt, o_sll, fin_f]
    refine ⟨zs ++ [[ch]], by rw [ha, List.map_append]; rfl, fun z hz' => ?_, by simp [hl], d3.trans d4⟩
    rcases List.mem_append.mp hz' with q | q
    · exact hz z q
    · rw [List.mem_singleton] at q; rw [q]; rfl
  rw [List.length_map, List.length_range] at hl d3
  subst ha
  have hw := jlen1 hz
  have hlm : zs.length ≤ 8 := by omega
  (try simp -implicitDefEqProofs only [exB_cons, exB_nil, exS_expr, exS_set, exS_setSub, exS_fz, exS_ife, exS_ret, exS_pass, den_nop, den_c, den_v, den_bin, den_neg, den_cmp, den_chain, den_and, den_or, den_not, den_ite, den_tup, den_lst, den_sub, den_rev, den_callv, exS_raise, exS_tryR, den_sl, den_call, den_blt, den_meth, denL_nil, denL_cons, WS_seq, WS_toS, WS_nx, WS_rt, WS_asB, WS_ite, WP_bind, WP_ok, WP_asB, WP_ite, bindP, setAll, List.set_cons_zero, List.set_cons_succ, List.getElem?_cons_zero, List.getElem?_cons_succ, decide_true, decide_false, if_true, if_false, Bool.false_eq_true, Bool.not_true, Bool.not_false, isNop, partR, o_add, o_sub, o_lt, o_le, o_gt, o_ge, o_eqi, o_nei, o_eqs, o_nes, o_in, o_notin, o_lent, o_lenl, o_lenc, o_abs, o_min, o_max, o_tupl, o_tupt, o_sll, fin_f])
  rw [o_join (by rw [show ([] : List Nat).length = 0 from rfl, lenSum_one zs hz]; omega)]
  generalize joinT [] zs = w at hw
  have D3 : Drew s r c 10 s3 := D2.to d3 (by omega)
  simp -implicitDefEqProofs only [exB_cons, exB_nil, exS_expr, exS_set, exS_setSub, exS_fz, exS_ife, exS_ret, exS_pass, den_nop, den_c, den_v, den_bin, den_neg, den_cmp, den_chain, den_and, den_or, den_not, den_ite, den_tup, den_lst, den_sub, den_rev, den_callv, exS_raise, exS_tryR, den_sl, den_call, den_blt, den_meth, denL_nil, denL_cons, WS_seq, WS_toS, WS_nx, WS_rt, WS_asB, WS_ite, WP_bind, WP_ok, WP_asB, WP_ite, bindP, setAll, List.set_cons_zero, List.set_cons_succ, List.getElem?_cons_zero, List.getElem?_cons_succ, decide_true, decide_false, if_true, if_false, Bool.false_eq_true, Bool.not_true, Bool.not_false, isNop, partR, o_add, o_sub, o_lt, o_le, o_gt, o_ge, o_eqi, o_nei, o_eqs, o_nes, o_in, o_notin, o_lent, o_lenl, o_lenc, o_abs, o_min, o_max, o_tupl, o_tupt, o_sll, fin_f]
  by_cases ck : (w == [107, 101, 121]) = true
  · simp -implicitDefEqProofs only [exB_cons, exB_nil, exS_expr, exS_set, exS_setSub, exS_fz, exS_ife, exS_ret, exS_pass, den_nop, den_c, den_v, den_bin, den_neg, den_cmp, den_chain, den_and, den_or, den_not, den_ite, den_tup, den_lst, den_sub, den_rev, den_callv, exS_raise, exS_tryR, den_sl, den_call, den_blt, den_meth, denL_nil, denL_cons, WS_seq, WS_toS, WS_nx, WS_rt, WS_asB, WS_ite, WP_bind, WP_ok, WP_asB, WP_ite, bindP, setAll, List.set_cons_zero, List.set_cons_succ, List.getElem?_cons_zero, List.getElem?_cons_succ, decide_true, decide_false, if_true, if_false, Bool.false_eq_true, Bool.not_true, Bool.not_false, isNop, partR, o_add, o_sub, o_lt, o_le, o_gt, o_ge, o_eqi, o_nei, o_eqs, o_nes, o_in, o_notin, o_lent, o_lenl, o_lenc, o_abs, o_min, o_max, o_tupl, o_tupt, o_sll, fin_f, ck]
    have e : ∀ z : List Nat, (Fk.D.str z).top = 0 := fun _ => rfl
    rw [e, D3.take]
    exact h _ _ (by decide) D3
  · have ck' : (w == [107, 101, 121]) = false := by simpa using ck
    simp -implicitDefEqProofs only [exB_cons, exB_nil, exS_expr, exS_set, exS_setSub, exS_fz, exS_ife, exS_ret, exS_pass, den_nop, den_c, den_v, den_bin, den_neg, den_cmp, den_chain, den_and, den_or, den_not, den_ite, den_tup, den_lst, den_sub, den_rev, den_callv, exS_raise, exS_tryR, den_sl, den_call, den_blt, den_meth, denL_nil, denL_cons, WS_seq, WS_toS, WS_nx, WS_rt, WS_asB, WS_ite, WP_bind, WP_ok, WP_asB, WP_ite, bindP, setAll, List.set_cons_zero, List.set_cons_succ, List.getElem?_cons_zero, List.getElem?_cons_succ, decide_true, decide_false, if_true, if_false, Bool.false_eq_true, Bool.not_true, Bool.not_false, isNop, partR, o_add, o_sub, o_lt, o_le, o_gt, o_ge, o_eqi, o_nei, o_eqs, o_nes, o_in, o_notin, o_lent, o_lenl, o_lenc, o_abs, o_min, o_max, o_tupl, o_tupt, o_sll, fin_f, ck']
    have e : ∀ z : List Nat, (Fk.D.str z).top = 0 := fun _ => rfl
    rw [e, D3.take]
    exact h _ _ (by omega) D3
theorem d_id (n : Nat) {r c : Nat} {s : Fk.St} {Q : Fk.D → Fk.St → Prop} (hp : Pot s r c) (hc : c ≤ 9000) (h : ∀ i z j s', z.length ≤ 30 → Drew s r c 14 s' → Q (.tup [.int i, .str z, .int j]) s') : WP (callF PP (n + 3) 22 [.ref r] s) Q := by
  rw [callF_eq (fn := fn22) rfl rfl, WP_back]
  show WS (exB _ fn22.body [some (.ref r)] s) _ _
  have p6 : ∀ s : Fk.St, binD .pow false (.int 10) (.int 6) s = .ok (.int 1000000) s := fun s => cP6
  simp -implicitDefEqProofs only [exB_cons, exB_nil, exS_expr, exS_set, exS_setSub, exS_fz, exS_ife, exS_ret, exS_pass, den_nop, den_c, den_v, den_bin, den_neg, den_cmp, den_chain, den_and, den_or, den_not, den_ite, den_tup, den_lst, den_sub, den_rev, den_callv, exS_raise, exS_tryR, den_sl, den_call, den_blt, den_meth, denL_nil, denL_cons, WS_seq, WS_toS, WS_nx, WS_rt, WS_asB, WS_ite, WP_bind, WP_ok, WP_asB, WP_ite, bindP, setAll, List.set_cons_zero, List.set_cons_succ, List.getElem?_cons_zero, List.getElem?_cons_succ, decide_true, decide_false, if_true, if_false, Bool.false_eq_true, Bool.not_true, Bool.not_false, isNop, partR, o_add, o_sub, o_lt, o_le, o_gt, o_ge, o_eqi, o_nei, o_eqs, o_nes, o_in, o_notin, o_lent, o_lenl, o_lenc, o_abs, o_min, o_max, o_tupl, o_tupt, o_sll, fin_f, fn22, p6]
  refine take_ (n + 1) hp (by omega) (by decide) (by decide +kernel) fun x s1 x0 x1 d1 => ?_
  refine d_word n d1.pot (by omega) fun z s2 hz d2 => ?_
  (try simp -implicitDefEqProofs only [exB_cons, exB_nil, exS_expr, exS_set, exS_setSub, exS_fz, exS_ife, exS_ret, exS_pass, den_nop, den_c, den_v, den_bin, den_neg, den_cmp, den_chain, den_and, den_or, den_not, den_ite, den_tup, den_lst, den_sub, den_rev, den_callv, exS_raise, exS_tryR, den_sl, den_call, den_blt, den_meth, denL_nil, denL_cons, WS_seq, WS_toS, WS_nx, WS_rt, WS_asB, WS_ite, WP_bind, WP_ok, WP_asB, WP_ite, bindP, setAll, List.set_cons_zero, List.set_cons_succ, List.getElem?_cons_zero, List.getElem?_cons_succ, decide_true, decide_false, if_true, if_false, Bool.false_eq_true, Bool.not_true, Bool.not_false, isNop, partR, o_add, o_sub, o_lt, o_le, o_gt, o_ge, o_eqi, o_nei, o_eqs, o_nes, o_in, o_notin, o_lent, o_lenl, o_lenc, o_abs, o_min, o_max, o_tupl, o_tupt, o_sll, fin_f, p6])
  refine take_ (n + 1) d2.pot (by omega) (by decide) (by decide +kernel) fun y s3 y0 y1 d3 => ?_
  (try simp -implicitDefEqProofs only [exB_cons, exB_nil, exS_expr, exS_set, exS_setSub, exS_fz, exS_ife, exS_ret, exS_pass, den_nop, den_c, den_v, den_bin, den_neg, den_cmp, den_chain, den_and, den_or, den_not, den_ite, den_tup, den_lst, den_sub, den_rev, den_callv, exS_raise, exS_tryR, den_sl, den_call, den_blt, den_meth, denL_nil, denL_cons, WS_seq, WS_toS, WS_nx, WS_rt, WS_asB, WS_ite, WP_bind, WP_ok, WP_asB, WP_ite, bindP, setAll, List.set_cons_zero, List.set_cons_succ, List.getElem?_cons_zero, List.getElem?_cons_succ, decide_true, decide_false, if_true, if_false, Bool.false_eq_true, Bool.not_true, Bool.not_false, isNop, partR, o_add, o_sub, o_lt, o_le, o_gt, o_ge, o_eqi, o_nei, o_eqs, o_nes, o_in, o_notin, o_lent, o_lenl, o_lenc, o_abs, o_min, o_max, o_tupl, o_tupt, o_sll, fin_f, p6])
  refine take_ (n + 1) d3.pot (by omega) (by decide) (by decide +kernel) fun k s4 k0 k1 d4 => ?_
  (try simp -implicitDefEqProofs only [exB_cons, exB_nil, exS_expr, exS_set, exS_setSub, exS_fz, exS_ife, exS_ret, exS_pass, den_nop, den_c, den_v, den_bin, den_neg, den_cmp, den_chain, den_and, den_or, den_not, den_ite, den_tup, den_lst, den_sub, den_rev, den_callv, exS_raise, exS_tryR, den_sl, den_call, den_blt, den_meth, denL_nil, denL_cons, WS_seq, WS_toS, WS_nx, WS_rt, WS_asB, WS_ite, WP_bind, WP_ok, WP_asB, WP_ite, bindP, setAll, List.set_cons_zero, List.set_cons_succ, List.getElem?_cons_zero, List.getElem?_cons_succ, decide_true, decide_false, if_true, if_false, Bool.false_eq_true, Bool.not_true, Bool.not_false, isNop, partR, o_add, o_sub, o_lt, o_le, o_gt, o_ge, o_eqi, o_nei, o_eqs, o_nes, o_in, o_notin, o_lent, o_lenl, o_lenc, o_abs, o_min, o_max, o_tupl, o_tupt, o_sll, fin_f, p6])
  refine take_ (n + 1) d4.pot (by omega) (by decide) (by decide +kernel) fun u s5 u0 u1 d5 => ?_
  refine wp_at u0 (by simp; omega) fun dm hm => ?_
  obtain ⟨j, rfl⟩ : ∃ j : Int, dm = .int j := by
    simp only [List.mem_cons, List.not_mem_nil, or_false] at hm
    rcases hm with rfl | rfl <;> exact ⟨_, rfl⟩
  have D5 : Drew s r c 14 s5 := (((d1.to d2 (m := 11) (by omega)).to d3 (m := 12) (by omega)).to d4 (m := 13) (by omega)).to d5 (by omega)
  (try simp -implicitDefEqProofs only [exB_cons, exB_nil, exS_expr, exS_set, exS_setSub, exS_fz, exS_ife, exS_ret, exS_pass, den_nop, den_c, den_v, den_bin, den_neg, den_cmp, den_chain, den_and, den_or, den_not, den_ite, den_tup, den_lst, den_sub, den_rev, den_callv, exS_raise, exS_tryR, den_sl, den_call, den_blt, den_meth, denL_nil, denL_cons, WS_seq, WS_toS, WS_nx, WS_rt, WS_asB, WS_ite, WP_bind, WP_ok, WP_asB, WP_ite, bindP, setAll, List.set_cons_zero, List.set_cons_succ, List.getElem?_cons_zero, List.getElem?_cons_succ, decide_true, decide_false, if_true, if_false, Bool.false_eq_true, Bool.not_true, Bool.not_false, isNop, partR, o_add, o_sub, o_lt, o_le, o_gt, o_ge, o_eqi, o_nei, o_eqs, o_nes, o_in, o_notin, o_lent, o_lenl, o_lenc, o_abs, o_min, o_max, o_tupl, o_tupt, o_sll, fin_f])
  have e : (Fk.D.tup [.int x, .str z, .int j]).top = 0 := rfl
  rw [e, D5.take]
  exact h _ _ _ _ hz D5
theorem d_key (n : Nat) {r c : Nat} {s : Fk.St} {Q : Fk.D → Fk.St → Prop} (hp : Pot s r c) (hc : c ≤ 9000) (h : ∀ i s', Drew s r c 3 s' → Q (.int i) s') : WP (callF PP (n + 2) 23 [.ref r] s) Q := by
  rw [callF_eq (fn := fn23) rfl rfl, WP_back]
  show WS (exB _ fn23.body [some (.ref r)] s) _ _
  have p9 : ∀ s : Fk.St, binD .pow false (.int 10) (.int 9) s = .ok (.int 1000000000) s := fun s => cP9
  simp -implicitDefEqProofs only [exB_cons, exB_nil, exS_expr, exS_set, exS_setSub, exS_fz, exS_ife, exS_ret, exS_pass, den_nop, den_c, den_v, den_bin, den_neg, den_cmp, den_chain, den_and, den_or, den_not, den_ite, den_tup, den_lst, den_sub, den_rev, den_callv, exS_raise, exS_tryR, den_sl, den_call, den_blt, den_meth, denL_nil, denL_cons, WS_seq, WS_toS, WS_nx, WS_rt, WS_asB, WS_ite, WP_bind, WP_ok, WP_asB, WP_ite, bindP, setAll, List.set_cons_zero, List.set_cons_succ, List.getElem?_cons_zero, List.getElem?_cons_succ, decide_true, decide_false, if_true, if_false, Bool.false_eq_true, Bool.not_true, Bool.not_false, isNop, partR, o_add, o_sub, o_lt, o_le, o_gt, o_ge, o_eqi, o_nei, o_eqs, o_nes, o_in, o_notin, o_lent, o_lenl, o_lenc, o_abs, o_min, o_max, o_tupl, o_tupt, o_sll, fin_f, fn23, p9]
  refine take_ n hp (by omega) (by decide) (by decide +kernel) fun x s1 x0 x1 d1 => ?_
  (try simp -implicitDefEqProofs only [exB_cons, exB_nil, exS_expr, exS_set, exS_setSub, exS_fz, exS_ife, exS_ret, exS_pass, den_nop, den_c, den_v, den_bin, den_neg, den_cmp, den_chain, den_and, den_or, den_not, den_ite, den_tup, den_lst, den_sub, den_rev, den_callv, exS_raise, exS_tryR, den_sl, den_call, den_blt, den_meth, denL_nil, denL_cons, WS_seq, WS_toS, WS_nx, WS_rt, WS_asB, WS_ite, WP_bind, WP_ok, WP_asB, WP_ite, bindP, setAll, List.set_cons_zero, List.set_cons_succ, List.getElem?_cons_zero, List.getElem?_cons_succ, decide_true, decide_false, if_true, if_false, Bool.false_eq_true, Bool.not_true, Bool.not_false, isNop, partR, o_add, o_sub, o_lt, o_le, o_gt, o_ge, o_eqi, o_nei, o_eqs, o_nes, o_in, o_notin, o_lent, o_lenl, o_lenc, o_abs, o_min, o_max, o_tupl, o_tupt, o_sll, fin_f, p9])
  refine take_ n d1.pot (by omega) (by decide) (by decide +kernel) fun y s2 y0 y1 d2 => ?_
  (try simp -implicitDefEqProofs only [exB_cons, exB_nil, exS_expr, exS_set, exS_setSub, exS_fz, exS_ife, exS_ret, exS_pass, den_nop, den_c, den_v, den_bin, den_neg, den_cmp, den_chain, den_and, den_or, den_not, den_ite, den_tup, den_lst, den_sub, den_rev, den_callv, exS_raise, exS_tryR, den_sl, den_call, den_blt, den_meth, denL_nil, denL_cons, WS_seq, WS_toS, WS_nx, WS_rt, WS_asB, WS_ite, WP_bind, WP_ok, WP_asB, WP_ite, bindP, setAll, List.set_cons_zero, List.set_cons_succ, List.getElem?_cons_zero, List.getElem?_cons_succ, decide_true, decide_false, if_true, if_false, Bool.false_eq_true, Bool.not_true, Bool.not_false, isNop, partR, o_add, o_sub, o_lt, o_le, o_gt, o_ge, o_eqi, o_nei, o_eqs, o_nes, o_in, o_notin, o_lent, o_lenl, o_lenc, o_abs, o_min, o_max, o_tupl, o_tupt, o_sll, fin_f, p9])
  refine take_ n d2.pot (by omega) (by decide) (by decide +kernel) fun u s3 u0 u1 d3 => ?_
  refine wp_at u0 (by simp; omega) fun dm hm => ?_
  obtain ⟨j, rfl⟩ : ∃ j : Int, dm = .int j := by
    simp only [List.mem_cons, List.not_mem_nil, or_false] at hm
    rcases hm with rfl | rfl | rfl | rfl <;> exact ⟨_, rfl⟩
  have D3 : Drew s r c 3 s3 := (d1.to d2 (m := 2) (by omega)).to d3 (by omega)
  have e : (Fk.D.int j).top = 0 := rfl
  rw [e, D3.take]
  exact h _ _ D3
end Lw_k03

set_option Elab.async false
set_option linter.all false
set_option autoImplicit false
set_option maxRecDepth 100000
set_option maxHeartbeats 4000000
namespace Lw_k03
open Fk L3
/-- a thing of the law -/
def gd (d : Fk.D) : Prop := okP d = true ∧ d.top = 0
/-- a part of a place -/
def gp (d : Fk.D) : Prop := okD d = true ∧ d.top = 0
theorem gd_gp {d : Fk.D} (h : gd d) : gp d := ⟨okP_D h.1, h.2⟩
theorem topL0 : ∀ {ds : List Fk.D}, (∀ d ∈ ds, d.top = 0) → D.topL ds = 0
  | [], _ => rfl
  | d :: ds, h => by
    unfold D.topL
    rw [h d List.mem_cons_self, topL0 fun x hx => h x (List.mem_cons_of_mem _ hx)]
    rfl
theorem gd_tup {ds : List Fk.D} (h : ∀ d ∈ ds, gp d) : gd (.tup ds) := by
  refine ⟨?_, ?_⟩
  · unfold okP
    show (true && ds.all okD) = true
    rw [Bool.true_and]
    exact List.all_eq_true.mpr fun d hd => (h d hd).1
  · unfold D.top
    exact topL0 fun d hd => (h d hd).2
theorem gd_lst {ds : List Fk.D} (h : ∀ d ∈ ds, gp d) : gd (.lst ds) := by
  refine ⟨rfl, ?_⟩
  unfold D.top
  exact topL0 fun d hd => (h d hd).2
theorem gp_str {z : List Nat} (h : z.length ≤ 30) : gp (.str z) := ⟨by simp [okD, ok1, kk]; omega, rfl⟩
theorem gd_str {z : List Nat} (h : z.length ≤ 30) : gd (.str z) := ⟨by simp [okP, ok1, kk]; omega, rfl⟩
theorem gp_int {i : Int} : gp (.int i) := ⟨rfl, rfl⟩
theorem gp_id {i j : Int} {z : List Nat} (h : z.length ≤ 30) : gp (.tup [.int i, .str z, .int j]) := by
  refine ⟨?_, rfl⟩
  unfold okD
  have h1 : ok1 (.str z) = true := okD_1 (gp_str h).1
  show (true && (ok1 (.int i) && (ok1 (.str z) && (ok1 (.int j) && true)))) = true
  rw [h1]; rfl
theorem gd_id {i j : Int} {z : List Nat} (h : z.length ≤ 30) : gd (.tup [.int i, .str z, .int j]) := gd_tup fun d hd => by
  simp only [List.mem_cons, List.not_mem_nil, or_false] at hd
  rcases hd with rfl | rfl | rfl
  · exact gp_int
  · exact gp_str h
  · exact gp_int
theorem mem_cut {α : Type} {x : α} {xs : List α} {l h : Option Int} (hx : x ∈ Fk.cut xs l h) : x ∈ xs := by
  unfold Fk.cut at hx
  exact List.mem_of_mem_drop (List.mem_of_mem_take hx)
theorem d_place (n : Nat) {r c : Nat} {w : List Nat} {s : Fk.St} {Q : Fk.D → Fk.St → Prop} (hw : w.length ≤ 30) (hp : Pot s r c) (hc : c ≤ 8000) (h : ∀ ds s', ds ≠ [] → ds.length ≤ 4 → (∀ d ∈ ds, gp d) → Drew s r c 40 s' → Q (.tup ds) s') : WP (callF PP (n + 4) 24 [.ref r, .str w] s) Q := by
  rw [callF_eq (fn := fn24) rfl rfl, WP_back]
  show WS (exB _ fn24.body [some (.ref r), some (.str w), none] s) _ _
  simp -implicitDefEqProofs only [exB_cons, exB_nil, exS_expr, exS_set, exS_setSub, exS_fz, exS_ife, exS_ret, exS_pass, den_nop, den_c, den_v, den_bin, den_neg, den_cmp, den_chain, den_and, den_or, den_not, den_ite, den_tup, den_lst, den_sub, den_rev, den_callv, exS_raise, exS_tryR, den_sl, den_call, den_blt, den_meth, denL_nil, denL_cons, WS_seq, WS_toS, WS_nx, WS_rt, WS_asB, WS_ite, WP_bind, WP_ok, WP_asB, WP_ite, bindP, setAll, List.set_cons_zero, List.set_cons_succ, List.getElem?_cons_zero, List.getElem?_cons_succ, decide_true, decide_false, if_true, if_false, Bool.false_eq_true, Bool.not_true, Bool.not_false, isNop, partR, o_add, o_sub, o_lt, o_le, o_gt, o_ge, o_eqi, o_nei, o_eqs, o_nes, o_in, o_notin, o_lent, o_lenl, o_lenc, o_abs, o_min, o_max, o_tupl, o_tupt, o_sll, fin_f, fn24]
  refine d_word (n + 1) hp (by omega) fun z s1 hz d1 => ?_
  have fin : ∀ (ds : List Fk.D) (s2 : Fk.St), ds ≠ [] → ds.length ≤ 4 → (∀ d ∈ ds, gp d) → Drew s r c 40 s2 → Q (.tup ds) (s2.take (max s.length (Fk.D.tup ds).top)) := fun ds s2 h1 h2 h3 h4 => by
    rw [(gd_tup h3).2, h4.take]
    exact h ds s2 h1 h2 h3 h4
  have gw := gp_str hw
  have gz := gp_str hz
  have two_ : ∀ d ∈ [Fk.D.str w, .str z], gp d := fun d hd => by
    simp only [List.mem_cons, List.not_mem_nil, or_false] at hd
    rcases hd with rfl | rfl
    · exact gw
    · exact gz
  have more : ∀ (e : List Fk.D), (∀ d ∈ e, gp d) → ∀ d ∈ Fk.D.str w :: .str z :: e, gp d := fun e he d hd => by
    rcases List.mem_cons.mp hd with rfl | hd
    · exact gw
    · rcases List.mem_cons.mp hd with rfl | hd
      · exact gz
      · exact he d hd
  have one_ : ∀ x : Fk.D, gp x → ∀ d ∈ [x], gp d := fun x hx d hd => by rw [List.mem_singleton] at hd; rw [hd]; exact hx
  (try simp -implicitDefEqProofs only [exB_cons, exB_nil, exS_expr, exS_set, exS_setSub, exS_fz, exS_ife, exS_ret, exS_pass, den_nop, den_c, den_v, den_bin, den_neg, den_cmp, den_chain, den_and, den_or, den_not, den_ite, den_tup, den_lst, den_sub, den_rev, den_callv, exS_raise, exS_tryR, den_sl, den_call, den_blt, den_meth, denL_nil, denL_cons, WS_seq, WS_toS, WS_nx, WS_rt, WS_asB, WS_ite, WP_bind, WP_ok, WP_asB, WP_ite, bindP, setAll, List.set_cons_zero, List.set_cons_succ, List.getElem?_cons_zero, List.getElem?_cons_succ, decide_true, decide_false, if_true, if_false, Bool.false_eq_true, Bool.not_true, Bool.not_false, isNop, partR, o_add, o_sub, o_lt, o_le, o_gt, o_ge, o_eqi, o_nei, o_eqs, o_nes, o_in, o_notin, o_lent, o_lenl, o_lenc, o_abs, o_min, o_max, o_tupl, o_tupt, o_sll, fin_f])
  by_cases c1 : (w == [116, 97, 98, 108, 101]) = true
  · rw [if_pos c1]
    exact fin _ _ (by simp) (by simp) two_ (d1.mono (by omega))
  · rw [if_neg c1]
    by_cases c2 : (w == [115, 108, 111, 116]) = true
    · rw [if_pos c2]
      refine d_word (n + 1) d1.pot (by omega) fun z2 s2 hz2 d2 => ?_
      exact fin _ _ (by simp) (by simp) (more _ (one_ _ (gp_str hz2))) (d1.to d2 (by omega))
    · rw [if_neg c2]
      by_cases c3 : (w == [114, 111, 119]) = true
      · rw [if_pos c3]
        refine d_key (n + 1) d1.pot (by omega) fun i s2 d2 => ?_
        exact fin _ _ (by simp) (by simp) (more _ (one_ _ gp_int)) (d1.to d2 (by omega))
      · rw [if_neg c3]
        by_cases c4 : (w == [99, 101, 108, 108]) = true
        · rw [if_pos c4]
          refine d_key (n + 1) d1.pot (by omega) fun i s2 d2 => ?_
          refine d_id n d2.pot (by omega) fun i' z' j' s3 hz' d3 => ?_
          have D3 : Drew s r c 40 s3 := (d1.to d2 (m := 13) (by omega)).to d3 (by omega)
          refine fin _ _ (by simp) (by simp) (more _ fun d hd => ?_) D3
          simp only [List.mem_cons, List.not_mem_nil, or_false] at hd
          rcases hd with rfl | rfl
          · exact gp_int
          · exact gp_id hz'
        · rw [if_neg c4]
          refine d_id n d1.pot (by omega) fun i' z' j' s3 hz' d3 => ?_
          exact fin _ _ (by simp) (by simp) (more _ (one_ _ (gp_id hz'))) (d1.to d3 (by omega))
theorem d_odd (n : Nat) {r c : Nat} {s : Fk.St} {Q : Fk.D → Fk.St → Prop} (hp : Pot s r c) (hc : c ≤ 9000) (h : ∀ d s', gd d → Drew s r c 1 s' → Q d s') : WP (callF PP (n + 2) 25 [.ref r] s) Q := by
  rw [callF_eq (fn := fn25) rfl rfl, WP_back]
  show WS (exB _ fn25.body [some (.ref r), none] s) _ _
  have p9 : ∀ s : Fk.St, binD .pow false (.int 10) (.int 9) s = .ok (.int 1000000000) s := fun s => cP9
  have p6 : ∀ s : Fk.St, binD .pow false (.int 10) (.int 6) s = .ok (.int 1000000) s := fun s => cP6
  have p39 : ∀ s : Fk.St, binD .pow false (.int 10) (.int 39) s = .ok (.int 1000000000000000000000000000000000000000) s := fun s => by simp only [binD, rd]; rw [if_pos (by decide +kernel)]; rfl
  simp -implicitDefEqProofs only [exB_cons, exB_nil, exS_expr, exS_set, exS_setSub, exS_fz, exS_ife, exS_ret, exS_pass, den_nop, den_c, den_v, den_bin, den_neg, den_cmp, den_chain, den_and, den_or, den_not, den_ite, den_tup, den_lst, den_sub, den_rev, den_callv, exS_raise, exS_tryR, den_sl, den_call, den_blt, den_meth, denL_nil, denL_cons, WS_seq, WS_toS, WS_nx, WS_rt, WS_asB, WS_ite, WP_bind, WP_ok, WP_asB, WP_ite, bindP, setAll, List.set_cons_zero, List.set_cons_succ, List.getElem?_cons_zero, List.getElem?_cons_succ, decide_true, decide_false, if_true, if_false, Bool.false_eq_true, Bool.not_true, Bool.not_false, isNop, partR, o_add, o_sub, o_lt, o_le, o_gt, o_ge, o_eqi, o_nei, o_eqs, o_nes, o_in, o_notin, o_lent, o_lenl, o_lenc, o_abs, o_min, o_max, o_tupl, o_tupt, o_sll, fin_f, fn25, p9, p6, p39, den_dic, pairsOf, List.all_nil]
  rw [o_app (by simp [sizeLine])]
  simp -implicitDefEqProofs only [exB_cons, exB_nil, exS_expr, exS_set, exS_setSub, exS_fz, exS_ife, exS_ret, exS_pass, den_nop, den_c, den_v, den_bin, den_neg, den_cmp, den_chain, den_and, den_or, den_not, den_ite, den_tup, den_lst, den_sub, den_rev, den_callv, exS_raise, exS_tryR, den_sl, den_call, den_blt, den_meth, denL_nil, denL_cons, WS_seq, WS_toS, WS_nx, WS_rt, WS_asB, WS_ite, WP_bind, WP_ok, WP_asB, WP_ite, bindP, setAll, List.set_cons_zero, List.set_cons_succ, List.getElem?_cons_zero, List.getElem?_cons_succ, decide_true, decide_false, if_true, if_false, Bool.false_eq_true, Bool.not_true, Bool.not_false, isNop, partR, o_add, o_sub, o_lt, o_le, o_gt, o_ge, o_eqi, o_nei, o_eqs, o_nes, o_in, o_notin, o_lent, o_lenl, o_lenc, o_abs, o_min, o_max, o_tupl, o_tupt, o_sll, fin_f, p6, List.cons_append, List.nil_append]
  rw [o_app (by simp [sizeLine])]
  simp -implicitDefEqProofs only [exB_cons, exB_nil, exS_expr, exS_set, exS_setSub, exS_fz, exS_ife, exS_ret, exS_pass, den_nop, den_c, den_v, den_bin, den_neg, den_cmp, den_chain, den_and, den_or, den_not, den_ite, den_tup, den_lst, den_sub, den_rev, den_callv, exS_raise, exS_tryR, den_sl, den_call, den_blt, den_meth, denL_nil, denL_cons, WS_seq, WS_toS, WS_nx, WS_rt, WS_asB, WS_ite, WP_bind, WP_ok, WP_asB, WP_ite, bindP, setAll, List.set_cons_zero, List.set_cons_succ, List.getElem?_cons_zero, List.getElem?_cons_succ, decide_true, decide_false, if_true, if_false, Bool.false_eq_true, Bool.not_true, Bool.not_false, isNop, partR, o_add, o_sub, o_lt, o_le, o_gt, o_ge, o_eqi, o_nei, o_eqs, o_nes, o_in, o_notin, o_lent, o_lenl, o_lenc, o_abs, o_min, o_max, o_tupl, o_tupt, o_sll, fin_f, List.cons_append, List.nil_append, den_dic, pairsOf, List.all_nil]
  rw [o_app (by simp [sizeLine])]
  simp -implicitDefEqProofs only [exB_cons, exB_nil, exS_expr, exS_set, exS_setSub, exS_fz, exS_ife, exS_ret, exS_pass, den_nop, den_c, den_v, den_bin, den_neg, den_cmp, den_chain, den_and, den_or, den_not, den_ite, den_tup, den_lst, den_sub, den_rev, den_callv, exS_raise, exS_tryR, den_sl, den_call, den_blt, den_meth, denL_nil, denL_cons, WS_seq, WS_toS, WS_nx, WS_rt, WS_asB, WS_ite, WP_bind, WP_ok, WP_asB, WP_ite, bindP, setAll, List.set_cons_zero, List.set_cons_succ, List.getElem?_cons_zero, List.getElem?_cons_succ, decide_true, decide_false, if_true, if_false, Bool.false_eq_true, Bool.not_true, Bool.not_false, isNop, partR, o_add, o_sub, o_lt, o_le, o_gt, o_ge, o_eqi, o_nei, o_eqs, o_nes, o_in, o_notin, o_lent, o_lenl, o_lenc, o_abs, o_min, o_max, o_tupl, o_tupt, o_sll, fin_f, List.cons_append, List.nil_append, List.length_cons, List.length_nil]
  refine take_ n hp (by omega) (by decide) (by decide +kernel) fun x s1 x0 x1 d1 => ?_
  refine wp_at x0 (by simp; omega) fun d hd => ?_
  have hg : gd d := by
    simp only [List.mem_cons, List.not_mem_nil, or_false] at hd
    rcases hd with rfl | rfl | rfl | rfl | rfl | rfl | rfl | rfl | rfl | rfl | rfl | rfl | rfl | rfl | rfl | rfl | rfl | rfl | rfl | rfl | rfl | rfl | rfl | rfl | rfl | rfl | rfl | rfl | rfl | rfl | rfl | rfl | rfl | rfl | rfl | rfl | rfl | rfl | rfl | rfl | rfl | rfl <;> exact ⟨by decide, by decide⟩
  rw [hg.2, d1.take]
  exact h d s1 hg d1
end Lw_k03

set_option Elab.async false
set_option linter.all false
set_option autoImplicit false
set_option maxRecDepth 100000
set_option maxHeartbeats 4000000
namespace Lw_k03
open Fk L3
def WORDS : List Fk.D := [.str TAB, .str COL, .str NAM, .str SLT, .str KND, .str ELS, .str ROW, .str CEL]
theorem e_words (n : Nat) (s : Fk.St) : callF PP (n + 1) 21 [] s = .ok (.lst WORDS) s := by
  refine eq_of_wp ?_
  rw [callF_eq (fn := fn21) rfl rfl, WP_back]
  show WS (exB _ fn21.body [] s) _ _
  simp -implicitDefEqProofs only [exB_cons, exB_nil, exS_expr, exS_set, exS_setSub, exS_fz, exS_ife, exS_ret, exS_pass, den_nop, den_c, den_v, den_bin, den_neg, den_cmp, den_chain, den_and, den_or, den_not, den_ite, den_tup, den_lst, den_sub, den_rev, den_callv, exS_raise, exS_tryR, den_sl, den_call, den_blt, den_meth, denL_nil, denL_cons, WS_seq, WS_toS, WS_nx, WS_rt, WS_asB, WS_ite, WP_bind, WP_ok, WP_asB, WP_ite, bindP, setAll, List.set_cons_zero, List.set_cons_succ, List.getElem?_cons_zero, List.getElem?_cons_succ, decide_true, decide_false, if_true, if_false, Bool.false_eq_true, Bool.not_true, Bool.not_false, isNop, partR, o_add, o_sub, o_lt, o_le, o_gt, o_ge, o_eqi, o_nei, o_eqs, o_nes, o_in, o_notin, o_lent, o_lenl, o_lenc, o_abs, o_min, o_max, o_tupl, o_tupt, o_sll, fin_f, fn21]
  refine ⟨?_, ?_⟩
  · rfl
  · have : (Fk.D.lst [.str [116, 97, 98, 108, 101], .str [99, 111, 108, 117, 109, 110], .str [110, 97, 109, 101], .str [115, 108, 111, 116], .str [107, 105, 110, 100], .str [101, 108, 115, 101], .str [114, 111, 119], .str [99, 101, 108, 108]]).top = 0 := rfl
    rw [this]; simp
theorem o_tadd {a b : List Fk.D} {s : Fk.St} (h : a.length + b.length ≤ sizeLine) : binD .add false (.tup a) (.tup b) s = .ok (.tup (a ++ b)) s := by simp only [binD, rd]; rw [if_pos h]
theorem o_tsl {t : Bool} {a : List Fk.D} {l h : Option Int} {s : Fk.St} : slD t (.tup a) l h s = .ok (.tup (Fk.cut a l h)) s := rfl
theorem o_trev {a : List Fk.D} {s : Fk.St} : revD (.tup a) s = .ok (.tup a.reverse) s := rfl
theorem o_tlist {a : List Fk.D} {s : Fk.St} : bltD .list_ false [.tup a] s = .ok (.lst a) s := rfl
theorem d_bent (n : Nat) {r c : Nat} {ds : List Fk.D} {s : Fk.St} {Q : Fk.D → Fk.St → Prop} (h0 : ds ≠ []) (h4 : ds.length ≤ 4) (hds : ∀ d ∈ ds, gp d) (hp : Pot s r c) (hc : c ≤ 8000) (h : ∀ d s', gd d → Drew s r c 10 s' → Q d s') : WP (callF PP (n + 3) 26 [.ref r, .tup ds] s) Q := by
  rw [callF_eq (fn := fn26) rfl rfl, WP_back]
  show WS (exB _ fn26.body [some (.ref r), some (.tup ds), none, none, none] s) _ _
  have hl : 0 < ds.length := by cases ds with
    | nil => exact absurd rfl h0
    | cons _ _ => simp
  have sz : sizeLine = 16777216 := rfl
  rw [fn26, exB_cons]
  simp -implicitDefEqProofs only [exB_nil, exS_expr, exS_set, exS_setSub, exS_fz, exS_ife, exS_ret, exS_pass, den_nop, den_c, den_v, den_bin, den_neg, den_cmp, den_chain, den_and, den_or, den_not, den_ite, den_tup, den_lst, den_sub, den_rev, den_callv, exS_raise, exS_tryR, den_sl, den_call, den_blt, den_meth, denL_nil, denL_cons, WS_seq, WS_toS, WS_nx, WS_rt, WS_asB, WS_ite, WP_bind, WP_ok, WP_asB, WP_ite, bindP, setAll, List.set_cons_zero, List.set_cons_succ, List.getElem?_cons_zero, List.getElem?_cons_succ, decide_true, decide_false, if_true, if_false, Bool.false_eq_true, Bool.not_true, Bool.not_false, isNop, partR, o_add, o_sub, o_lt, o_le, o_gt, o_ge, o_eqi, o_nei, o_eqs, o_nes, o_in, o_notin, o_lent, o_lenl, o_lenc, o_abs, o_min, o_max, o_tupl, o_tupt, o_sll, fin_f]
  refine take_ (n + 1) hp (by omega) (by omega) (by
    have := ilog2_le (i := (ds.length : Int)) (k := 100) (by omega) (Int.lt_of_lt_of_le (b := 5) (by omega) (by decide +kernel)); omega) fun a s1 a0 a1 d1 => ?_
  (try simp -implicitDefEqProofs only [exB_cons, exB_nil, exS_expr, exS_set, exS_setSub, exS_fz, exS_ife, exS_ret, exS_pass, den_nop, den_c, den_v, den_bin, den_neg, den_cmp, den_chain, den_and, den_or, den_not, den_ite, den_tup, den_lst, den_sub, den_rev, den_callv, exS_raise, exS_tryR, den_sl, den_call, den_blt, den_meth, denL_nil, denL_cons, WS_seq, WS_toS, WS_nx, WS_rt, WS_asB, WS_ite, WP_bind, WP_ok, WP_asB, WP_ite, bindP, setAll, List.set_cons_zero, List.set_cons_succ, List.getElem?_cons_zero, List.getElem?_cons_succ, decide_true, decide_false, if_true, if_false, Bool.false_eq_true, Bool.not_true, Bool.not_false, isNop, partR, o_add, o_sub, o_lt, o_le, o_gt, o_ge, o_eqi, o_nei, o_eqs, o_nes, o_in, o_notin, o_lent, o_lenl, o_lenc, o_abs, o_min, o_max, o_tupl, o_tupt, o_sll, fin_f])
  refine d_odd n d1.pot (by omega) fun odd s2 go d2 => ?_
  have l1 := cut_len ds none (some a)
  have l2 := cut_len ds (some (a + 1)) none
  have l3 := cut_len ds (some 1) none
  have w8 : ∀ s : Fk.St, callF PP (n + 2) 21 [] s = .ok (.lst WORDS) s := fun s => e_words (n + 1) s
  have ad1 : ∀ s : Fk.St, binD .add false (.tup (Fk.cut ds none (some a))) (.tup [odd]) s = .ok (.tup (Fk.cut ds none (some a) ++ [odd])) s := fun s => o_tadd (by simp; omega)
  have ad2 : ∀ s : Fk.St, binD .add false (.tup (Fk.cut ds none (some a) ++ [odd])) (.tup (Fk.cut ds (some (a + 1)) none)) s = .ok (.tup (Fk.cut ds none (some a) ++ [odd] ++ Fk.cut ds (some (a + 1)) none)) s := fun s => o_tadd (by simp; omega)
  have ad3 : ∀ s : Fk.St, binD .add false (.tup (Fk.cut ds none (some a))) (.tup (Fk.cut ds (some (a + 1)) none)) s = .ok (.tup (Fk.cut ds none (some a) ++ Fk.cut ds (some (a + 1)) none)) s := fun s => o_tadd (by omega)
  have ad4 : ∀ s : Fk.St, binD .add false (.tup ds) (.tup [odd]) s = .ok (.tup (ds ++ [odd])) s := fun s => o_tadd (by simp; omega)
  (try simp -implicitDefEqProofs only [exB_cons, exB_nil, exS_expr, exS_set, exS_setSub, exS_fz, exS_ife, exS_ret, exS_pass, den_nop, den_c, den_v, den_bin, den_neg, den_cmp, den_chain, den_and, den_or, den_not, den_ite, den_tup, den_lst, den_sub, den_rev, den_callv, exS_raise, exS_tryR, den_sl, den_call, den_blt, den_meth, denL_nil, denL_cons, WS_seq, WS_toS, WS_nx, WS_rt, WS_asB, WS_ite, WP_bind, WP_ok, WP_asB, WP_ite, bindP, setAll, List.set_cons_zero, List.set_cons_succ, List.getElem?_cons_zero, List.getElem?_cons_succ, decide_true, decide_false, if_true, if_false, Bool.false_eq_true, Bool.not_true, Bool.not_false, isNop, partR, o_add, o_sub, o_lt, o_le, o_gt, o_ge, o_eqi, o_nei, o_eqs, o_nes, o_in, o_notin, o_lent, o_lenl, o_lenc, o_abs, o_min, o_max, o_tupl, o_tupt, o_sll, fin_f, o_tsl, ad1, ad2, ad3, ad4, o_tlist, w8])
  refine take_ (n + 1) d2.pot (by omega) (by decide) (by decide +kernel) fun x s3 x0 x1 d3 => ?_
  refine wp_at x0 (by simp [WORDS]; omega) fun wd hwd => ?_
  have gw : gp wd := by
    unfold WORDS at hwd
    simp only [List.mem_cons, List.not_mem_nil, or_false] at hwd
    rcases hwd with rfl | rfl | rfl | rfl | rfl | rfl | rfl | rfl <;> exact gp_str (by decide)
  have ad5 : ∀ s : Fk.St, binD .add false (.tup [wd]) (.tup (Fk.cut ds (some 1) none)) s = .ok (.tup ([wd] ++ Fk.cut ds (some 1) none)) s := fun s => o_tadd (by simp; omega)
  (try simp -implicitDefEqProofs only [exB_cons, exB_nil, exS_expr, exS_set, exS_setSub, exS_fz, exS_ife, exS_ret, exS_pass, den_nop, den_c, den_v, den_bin, den_neg, den_cmp, den_chain, den_and, den_or, den_not, den_ite, den_tup, den_lst, den_sub, den_rev, den_callv, exS_raise, exS_tryR, den_sl, den_call, den_blt, den_meth, denL_nil, denL_cons, WS_seq, WS_toS, WS_nx, WS_rt, WS_asB, WS_ite, WP_bind, WP_ok, WP_asB, WP_ite, bindP, setAll, List.set_cons_zero, List.set_cons_succ, List.getElem?_cons_zero, List.getElem?_cons_succ, decide_true, decide_false, if_true, if_false, Bool.false_eq_true, Bool.not_true, Bool.not_false, isNop, partR, o_add, o_sub, o_lt, o_le, o_gt, o_ge, o_eqi, o_nei, o_eqs, o_nes, o_in, o_notin, o_lent, o_lenl, o_lenc, o_abs, o_min, o_max, o_tupl, o_tupt, o_sll, fin_f, o_tsl, ad5, o_trev, o_tlist])
  rw [o_app (by simp [sizeLine])]
  simp -implicitDefEqProofs only [exB_cons, exB_nil, exS_expr, exS_set, exS_setSub, exS_fz, exS_ife, exS_ret, exS_pass, den_nop, den_c, den_v, den_bin, den_neg, den_cmp, den_chain, den_and, den_or, den_not, den_ite, den_tup, den_lst, den_sub, den_rev, den_callv, exS_raise, exS_tryR, den_sl, den_call, den_blt, den_meth, denL_nil, denL_cons, WS_seq, WS_toS, WS_nx, WS_rt, WS_asB, WS_ite, WP_bind, WP_ok, WP_asB, WP_ite, bindP, setAll, List.set_cons_zero, List.set_cons_succ, List.getElem?_cons_zero, List.getElem?_cons_succ, decide_true, decide_false, if_true, if_false, Bool.false_eq_true, Bool.not_true, Bool.not_false, isNop, partR, o_add, o_sub, o_lt, o_le, o_gt, o_ge, o_eqi, o_nei, o_eqs, o_nes, o_in, o_notin, o_lent, o_lenl, o_lenc, o_abs, o_min, o_max, o_tupl, o_tupt, o_sll, fin_f, List.cons_append, List.nil_append]
  refine take_ (n + 1) d3.pot (by omega) (by decide) (by decide +kernel) fun y s4 y0 y1 d4 => ?_
  refine wp_at y0 (by simp; omega) fun d hd => ?_
  have D4 : Drew s r c 10 s4 := ((d1.to d2 (m := 2) (by omega)).to d3 (m := 3) (by omega)).to d4 (by omega)
  have go' := gd_gp go
  have hg : gd d := by
    have c1 : ∀ e ∈ Fk.cut ds none (some a), gp e := fun e he => hds e (mem_cut he)
    have c2 : ∀ e ∈ Fk.cut ds (some (a + 1)) none, gp e := fun e he => hds e (mem_cut he)
    have c3 : ∀ e ∈ Fk.cut ds (some 1) none, gp e := fun e he => hds e (mem_cut he)
    have one_ : ∀ x : Fk.D, gp x → ∀ e ∈ [x], gp e := fun x hx e he => by rw [List.mem_singleton] at he; rw [he]; exact hx
    have app : ∀ {xs ys : List Fk.D}, (∀ e ∈ xs, gp e) → (∀ e ∈ ys, gp e) → ∀ e ∈ xs ++ ys, gp e := fun h1 h2 e he => (List.mem_append.mp he).elim (h1 e) (h2 e)
    have k1 := gd_tup (app (app c1 (one_ odd go')) c2)
    have k2 := gd_tup (app c1 c2)
    have k3 := gd_tup (app hds (one_ odd go'))
    have k4 := gd_tup (app (one_ wd gw) c3)
    have k5 := gd_tup (ds := ds.reverse) fun e he => hds e (List.mem_reverse.mp he)
    simp only [List.mem_cons, List.not_mem_nil, or_false] at hd
    rcases hd with rfl | rfl | rfl | rfl | rfl | rfl | rfl | rfl
    · first | exact k1 | simpa using k1
    · first | exact k1 | simpa using k1
    · exact k2
    · exact k3
    · exact gd_lst hds
    · first | exact k4 | simpa using k4
    · exact k5
    · exact go
  rw [hg.2, D4.take]
  exact h d s4 hg D4
end Lw_k03

set_option Elab.async false
set_option linter.all false
set_option autoImplicit false
set_option maxRecDepth 100000
set_option maxHeartbeats 4000000
namespace Lw_k03
open Fk L3
theorem right_ (n : Nat) {d t : Fk.D} (s : Fk.St) (h : gd d) (ht : gd t) : callF PP (n + 9) 33 [d, t] s = .ok (.bl true) s := e_right n s h.1 (gd_gp ht).1
theorem plain (ns : List Int) (hn : ns.length ≤ 63) : ∃ s, callF PP 31 34 [.scr ns] [] = .ok (.bl true) s := by
  have main : WP (callF PP 31 34 [.scr ns] []) fun d _ => d = .bl true := by
    rw [callF_eq (n := 30) (fn := fn34) rfl rfl, WP_back]
    show WS (exB _ fn34.body [some (.scr ns), none, none, none, none, none, none, none] []) _ _
    rw [fn34, exB_cons, exS_forr]
    simp -implicitDefEqProofs only [exB_nil, exS_expr, exS_set, exS_setSub, exS_fz, exS_ife, exS_ret, exS_pass, den_nop, den_c, den_v, den_bin, den_neg, den_cmp, den_chain, den_and, den_or, den_not, den_ite, den_tup, den_lst, den_sub, den_rev, den_callv, exS_raise, exS_tryR, den_sl, den_call, den_blt, den_meth, denL_nil, denL_cons, WS_seq, WS_toS, WS_nx, WS_rt, WS_asB, WS_ite, WP_bind, WP_ok, WP_asB, WP_ite, bindP, setAll, List.set_cons_zero, List.set_cons_succ, List.getElem?_cons_zero, List.getElem?_cons_succ, decide_true, decide_false, if_true, if_false, Bool.false_eq_true, Bool.not_true, Bool.not_false, isNop, partR, o_add, o_sub, o_lt, o_le, o_gt, o_ge, o_eqi, o_nei, o_eqs, o_nes, o_in, o_notin, o_lent, o_lenl, o_lenc, o_abs, o_min, o_max, o_tupl, o_tupt, o_sll, fin_f]
    have z : sizeLine = 16777216 := rfl
    have zf : far = 4611686018427387904 := rfl
    generalize hm : (if (if (ns.length : Int) < 30 then (ns.length : Int) else 30) > 1 then (if (ns.length : Int) < 30 then (ns.length : Int) else 30) else 1) = m
    have m0 : 0 ≤ m := by rw [← hm]; split <;> omega
    have m1 : m ≤ 40 := by rw [← hm]; split <;> (try split) <;> omega
    rw [it_rng (by omega) (by omega)]
    (try simp -implicitDefEqProofs only [exB_nil, exS_expr, exS_set, exS_setSub, exS_fz, exS_ife, exS_ret, exS_pass, den_nop, den_c, den_v, den_bin, den_neg, den_cmp, den_chain, den_and, den_or, den_not, den_ite, den_tup, den_lst, den_sub, den_rev, den_callv, exS_raise, exS_tryR, den_sl, den_call, den_blt, den_meth, denL_nil, denL_cons, WS_seq, WS_toS, WS_nx, WS_rt, WS_asB, WS_ite, WP_bind, WP_ok, WP_asB, WP_ite, bindP, setAll, List.set_cons_zero, List.set_cons_succ, List.getElem?_cons_zero, List.getElem?_cons_succ, decide_true, decide_false, if_true, if_false, Bool.false_eq_true, Bool.not_true, Bool.not_false, isNop, partR, o_add, o_sub, o_lt, o_le, o_gt, o_ge, o_eqi, o_nei, o_eqs, o_nes, o_in, o_notin, o_lent, o_lenl, o_lenc, o_abs, o_min, o_max, o_tupl, o_tupt, o_sll, fin_f])
    refine ws_for (fun i env s => ∃ e1 e2 e3 e4 e5 e6 e7, env = [some (.scr ns), e1, e2, e3, e4, e5, e6, e7]) ⟨_, _, _, _, _, _, _, rfl⟩ (fun i d env s hi ⟨e1, e2, e3, e4, e5, e6, e7, he⟩ => ?_) (fun env s ⟨e1, e2, e3, e4, e5, e6, e7, he⟩ => ?_)
    · subst he
      refine ⟨_, rfl, ?_⟩
      obtain ⟨hi1, hi2⟩ := List.getElem?_eq_some_iff.mp hi
      have hd : ∃ k : Int, d = .int k ∧ 0 ≤ k ∧ k ≤ 40 := by
        rw [List.getElem_map] at hi2
        rw [List.length_map, List.length_range] at hi1
        refine ⟨_, hi2.symm, ?_, ?_⟩ <;> simp <;> omega
      obtain ⟨k, rfl, k0, k1⟩ := hd
      rw [exB_cons]
      simp -implicitDefEqProofs only [exB_nil, exS_expr, exS_set, exS_setSub, exS_fz, exS_ife, exS_ret, exS_pass, den_nop, den_c, den_v, den_bin, den_neg, den_cmp, den_chain, den_and, den_or, den_not, den_ite, den_tup, den_lst, den_sub, den_rev, den_callv, exS_raise, exS_tryR, den_sl, den_call, den_blt, den_meth, denL_nil, denL_cons, WS_seq, WS_toS, WS_nx, WS_rt, WS_asB, WS_ite, WP_bind, WP_ok, WP_asB, WP_ite, bindP, setAll, List.set_cons_zero, List.set_cons_succ, List.getElem?_cons_zero, List.getElem?_cons_succ, decide_true, decide_false, if_true, if_false, Bool.false_eq_true, Bool.not_true, Bool.not_false, isNop, partR, o_add, o_sub, o_lt, o_le, o_gt, o_ge, o_eqi, o_nei, o_eqs, o_nes, o_in, o_notin, o_lent, o_lenl, o_lenc, o_abs, o_min, o_max, o_tupl, o_tupt, o_sll, fin_f]
      refine wp_pot (P := PP) (n := 29) (f := 17) rfl k0 (by omega) fun p hp => ?_
      generalize hS : s ++ [p] = S at hp
      generalize s.length = r at hp
      (try simp -implicitDefEqProofs only [exB_nil, exS_expr, exS_set, exS_setSub, exS_fz, exS_ife, exS_ret, exS_pass, den_nop, den_c, den_v, den_bin, den_neg, den_cmp, den_chain, den_and, den_or, den_not, den_ite, den_tup, den_lst, den_sub, den_rev, den_callv, exS_raise, exS_tryR, den_sl, den_call, den_blt, den_meth, denL_nil, denL_cons, WS_seq, WS_toS, WS_nx, WS_rt, WS_asB, WS_ite, WP_bind, WP_ok, WP_asB, WP_ite, bindP, setAll, List.set_cons_zero, List.set_cons_succ, List.getElem?_cons_zero, List.getElem?_cons_succ, decide_true, decide_false, if_true, if_false, Bool.false_eq_true, Bool.not_true, Bool.not_false, isNop, partR, o_add, o_sub, o_lt, o_le, o_gt, o_ge, o_eqi, o_nei, o_eqs, o_nes, o_in, o_notin, o_lent, o_lenl, o_lenc, o_abs, o_min, o_max, o_tupl, o_tupt, o_sll, fin_f])
      rw [exB_cons, exS_forr]
      (try simp -implicitDefEqProofs only [exB_nil, exS_expr, exS_set, exS_setSub, exS_fz, exS_ife, exS_ret, exS_pass, den_nop, den_c, den_v, den_bin, den_neg, den_cmp, den_chain, den_and, den_or, den_not, den_ite, den_tup, den_lst, den_sub, den_rev, den_callv, exS_raise, exS_tryR, den_sl, den_call, den_blt, den_meth, denL_nil, denL_cons, WS_seq, WS_toS, WS_nx, WS_rt, WS_asB, WS_ite, WP_bind, WP_ok, WP_asB, WP_ite, bindP, setAll, List.set_cons_zero, List.set_cons_succ, List.getElem?_cons_zero, List.getElem?_cons_succ, decide_true, decide_false, if_true, if_false, Bool.false_eq_true, Bool.not_true, Bool.not_false, isNop, partR, o_add, o_sub, o_lt, o_le, o_gt, o_ge, o_eqi, o_nei, o_eqs, o_nes, o_in, o_notin, o_lent, o_lenl, o_lenc, o_abs, o_min, o_max, o_tupl, o_tupt, o_sll, fin_f, e_words 29, it_lst])
      refine ws_for (fun i env s => Drew S r 0 (100 * i) s ∧ ∃ e3 e4 e5 e6 e7, env = [some (.scr ns), some (.int k), some (.ref r), e3, e4, e5, e6, e7]) ⟨Drew.refl hp, _, _, _, _, _, rfl⟩ (fun i d env s1 hi ⟨d1, e3, e4, e5, e6, e7, he⟩ => ?_) (fun env s1 ⟨d1, e3, e4, e5, e6, e7, he⟩ => ?_)
      · subst he
        have hi8 : i < 8 := (List.getElem?_eq_some_iff.mp hi).1
        have hw : ∃ w : List Nat, d = .str w ∧ w.length ≤ 30 := by
          have hmem := List.mem_of_getElem? hi
          unfold WORDS at hmem
          simp only [List.mem_cons, List.not_mem_nil, or_false] at hmem
          rcases hmem with rfl | rfl | rfl | rfl | rfl | rfl | rfl | rfl <;> exact ⟨_, rfl, by decide⟩
        obtain ⟨w, rfl, hw⟩ := hw
        refine ⟨_, rfl, ?_⟩
        rw [exB_cons]
        simp -implicitDefEqProofs only [exB_nil, exS_expr, exS_set, exS_setSub, exS_fz, exS_ife, exS_ret, exS_pass, den_nop, den_c, den_v, den_bin, den_neg, den_cmp, den_chain, den_and, den_or, den_not, den_ite, den_tup, den_lst, den_sub, den_rev, den_callv, exS_raise, exS_tryR, den_sl, den_call, den_blt, den_meth, denL_nil, denL_cons, WS_seq, WS_toS, WS_nx, WS_rt, WS_asB, WS_ite, WP_bind, WP_ok, WP_asB, WP_ite, bindP, setAll, List.set_cons_zero, List.set_cons_succ, List.getElem?_cons_zero, List.getElem?_cons_succ, decide_true, decide_false, if_true, if_false, Bool.false_eq_true, Bool.not_true, Bool.not_false, isNop, partR, o_add, o_sub, o_lt, o_le, o_gt, o_ge, o_eqi, o_nei, o_eqs, o_nes, o_in, o_notin, o_lent, o_lenl, o_lenc, o_abs, o_min, o_max, o_tupl, o_tupt, o_sll, fin_f]
        refine d_place 26 hw d1.pot (by omega) fun ds s2 h0 h4 hds d2 => ?_
        have gpl := gd_tup hds
        (try simp -implicitDefEqProofs only [exB_nil, exS_expr, exS_set, exS_setSub, exS_fz, exS_ife, exS_ret, exS_pass, den_nop, den_c, den_v, den_bin, den_neg, den_cmp, den_chain, den_and, den_or, den_not, den_ite, den_tup, den_lst, den_sub, den_rev, den_callv, exS_raise, exS_tryR, den_sl, den_call, den_blt, den_meth, denL_nil, denL_cons, WS_seq, WS_toS, WS_nx, WS_rt, WS_asB, WS_ite, WP_bind, WP_ok, WP_asB, WP_ite, bindP, setAll, List.set_cons_zero, List.set_cons_succ, List.getElem?_cons_zero, List.getElem?_cons_succ, decide_true, decide_false, if_true, if_false, Bool.false_eq_true, Bool.not_true, Bool.not_false, isNop, partR, o_add, o_sub, o_lt, o_le, o_gt, o_ge, o_eqi, o_nei, o_eqs, o_nes, o_in, o_notin, o_lent, o_lenl, o_lenc, o_abs, o_min, o_max, o_tupl, o_tupt, o_sll, fin_f])
        rw [exB_cons]
        simp -implicitDefEqProofs only [exB_nil, exS_expr, exS_set, exS_setSub, exS_fz, exS_ife, exS_ret, exS_pass, den_nop, den_c, den_v, den_bin, den_neg, den_cmp, den_chain, den_and, den_or, den_not, den_ite, den_tup, den_lst, den_sub, den_rev, den_callv, exS_raise, exS_tryR, den_sl, den_call, den_blt, den_meth, denL_nil, denL_cons, WS_seq, WS_toS, WS_nx, WS_rt, WS_asB, WS_ite, WP_bind, WP_ok, WP_asB, WP_ite, bindP, setAll, List.set_cons_zero, List.set_cons_succ, List.getElem?_cons_zero, List.getElem?_cons_succ, decide_true, decide_false, if_true, if_false, Bool.false_eq_true, Bool.not_true, Bool.not_false, isNop, partR, o_add, o_sub, o_lt, o_le, o_gt, o_ge, o_eqi, o_nei, o_eqs, o_nes, o_in, o_notin, o_lent, o_lenl, o_lenc, o_abs, o_min, o_max, o_tupl, o_tupt, o_sll, fin_f]
        refine take_ 29 d2.pot (by omega) (by decide) (by decide +kernel) fun x s3 x0 x1 d3 => ?_
        refine wp_at x0 (by simp; omega) fun kd hkd => ?_
        have gk : gd kd := by
          simp only [List.mem_cons, List.not_mem_nil, or_false] at hkd
          rcases hkd with rfl | rfl | rfl <;> exact gd_str (by decide)
        (try simp -implicitDefEqProofs only [exB_nil, exS_expr, exS_set, exS_setSub, exS_fz, exS_ife, exS_ret, exS_pass, den_nop, den_c, den_v, den_bin, den_neg, den_cmp, den_chain, den_and, den_or, den_not, den_ite, den_tup, den_lst, den_sub, den_rev, den_callv, exS_raise, exS_tryR, den_sl, den_call, den_blt, den_meth, denL_nil, denL_cons, WS_seq, WS_toS, WS_nx, WS_rt, WS_asB, WS_ite, WP_bind, WP_ok, WP_asB, WP_ite, bindP, setAll, List.set_cons_zero, List.set_cons_succ, List.getElem?_cons_zero, List.getElem?_cons_succ, decide_true, decide_false, if_true, if_false, Bool.false_eq_true, Bool.not_true, Bool.not_false, isNop, partR, o_add, o_sub, o_lt, o_le, o_gt, o_ge, o_eqi, o_nei, o_eqs, o_nes, o_in, o_notin, o_lent, o_lenl, o_lenc, o_abs, o_min, o_max, o_tupl, o_tupt, o_sll, fin_f])
        rw [exB_cons]
        simp -implicitDefEqProofs only [exB_nil, exS_expr, exS_set, exS_setSub, exS_fz, exS_ife, exS_ret, exS_pass, den_nop, den_c, den_v, den_bin, den_neg, den_cmp, den_chain, den_and, den_or, den_not, den_ite, den_tup, den_lst, den_sub, den_rev, den_callv, exS_raise, exS_tryR, den_sl, den_call, den_blt, den_meth, denL_nil, denL_cons, WS_seq, WS_toS, WS_nx, WS_rt, WS_asB, WS_ite, WP_bind, WP_ok, WP_asB, WP_ite, bindP, setAll, List.set_cons_zero, List.set_cons_succ, List.getElem?_cons_zero, List.getElem?_cons_succ, decide_true, decide_false, if_true, if_false, Bool.false_eq_true, Bool.not_true, Bool.not_false, isNop, partR, o_add, o_sub, o_lt, o_le, o_gt, o_ge, o_eqi, o_nei, o_eqs, o_nes, o_in, o_notin, o_lent, o_lenl, o_lenc, o_abs, o_min, o_max, o_tupl, o_tupt, o_sll, fin_f]
        refine d_word 28 d3.pot (by omega) fun zw s4 hz d4 => ?_
        (try simp -implicitDefEqProofs only [exB_nil, exS_expr, exS_set, exS_setSub, exS_fz, exS_ife, exS_ret, exS_pass, den_nop, den_c, den_v, den_bin, den_neg, den_cmp, den_chain, den_and, den_or, den_not, den_ite, den_tup, den_lst, den_sub, den_rev, den_callv, exS_raise, exS_tryR, den_sl, den_call, den_blt, den_meth, denL_nil, denL_cons, WS_seq, WS_toS, WS_nx, WS_rt, WS_asB, WS_ite, WP_bind, WP_ok, WP_asB, WP_ite, bindP, setAll, List.set_cons_zero, List.set_cons_succ, List.getElem?_cons_zero, List.getElem?_cons_succ, decide_true, decide_false, if_true, if_false, Bool.false_eq_true, Bool.not_true, Bool.not_false, isNop, partR, o_add, o_sub, o_lt, o_le, o_gt, o_ge, o_eqi, o_nei, o_eqs, o_nes, o_in, o_notin, o_lent, o_lenl, o_lenc, o_abs, o_min, o_max, o_tupl, o_tupt, o_sll, fin_f])
        refine d_id 27 d4.pot (by omega) fun i1 z1 j1 s5 hz1 d5 => ?_
        (try simp -implicitDefEqProofs only [exB_nil, exS_expr, exS_set, exS_setSub, exS_fz, exS_ife, exS_ret, exS_pass, den_nop, den_c, den_v, den_bin, den_neg, den_cmp, den_chain, den_and, den_or, den_not, den_ite, den_tup, den_lst, den_sub, den_rev, den_callv, exS_raise, exS_tryR, den_sl, den_call, den_blt, den_meth, denL_nil, denL_cons, WS_seq, WS_toS, WS_nx, WS_rt, WS_asB, WS_ite, WP_bind, WP_ok, WP_asB, WP_ite, bindP, setAll, List.set_cons_zero, List.set_cons_succ, List.getElem?_cons_zero, List.getElem?_cons_succ, decide_true, decide_false, if_true, if_false, Bool.false_eq_true, Bool.not_true, Bool.not_false, isNop, partR, o_add, o_sub, o_lt, o_le, o_gt, o_ge, o_eqi, o_nei, o_eqs, o_nes, o_in, o_notin, o_lent, o_lenl, o_lenc, o_abs, o_min, o_max, o_tupl, o_tupt, o_sll, fin_f])
        refine d_key 28 d5.pot (by omega) fun i2 s6 d6 => ?_
        (try simp -implicitDefEqProofs only [exB_nil, exS_expr, exS_set, exS_setSub, exS_fz, exS_ife, exS_ret, exS_pass, den_nop, den_c, den_v, den_bin, den_neg, den_cmp, den_chain, den_and, den_or, den_not, den_ite, den_tup, den_lst, den_sub, den_rev, den_callv, exS_raise, exS_tryR, den_sl, den_call, den_blt, den_meth, denL_nil, denL_cons, WS_seq, WS_toS, WS_nx, WS_rt, WS_asB, WS_ite, WP_bind, WP_ok, WP_asB, WP_ite, bindP, setAll, List.set_cons_zero, List.set_cons_succ, List.getElem?_cons_zero, List.getElem?_cons_succ, decide_true, decide_false, if_true, if_false, Bool.false_eq_true, Bool.not_true, Bool.not_false, isNop, partR, o_add, o_sub, o_lt, o_le, o_gt, o_ge, o_eqi, o_nei, o_eqs, o_nes, o_in, o_notin, o_lent, o_lenl, o_lenc, o_abs, o_min, o_max, o_tupl, o_tupt, o_sll, fin_f])
        rw [exB_cons, exS_forr]
        (try simp -implicitDefEqProofs only [exB_nil, exS_expr, exS_set, exS_setSub, exS_fz, exS_ife, exS_ret, exS_pass, den_nop, den_c, den_v, den_bin, den_neg, den_cmp, den_chain, den_and, den_or, den_not, den_ite, den_tup, den_lst, den_sub, den_rev, den_callv, exS_raise, exS_tryR, den_sl, den_call, den_blt, den_meth, denL_nil, denL_cons, WS_seq, WS_toS, WS_nx, WS_rt, WS_asB, WS_ite, WP_bind, WP_ok, WP_asB, WP_ite, bindP, setAll, List.set_cons_zero, List.set_cons_succ, List.getElem?_cons_zero, List.getElem?_cons_succ, decide_true, decide_false, if_true, if_false, Bool.false_eq_true, Bool.not_true, Bool.not_false, isNop, partR, o_add, o_sub, o_lt, o_le, o_gt, o_ge, o_eqi, o_nei, o_eqs, o_nes, o_in, o_notin, o_lent, o_lenl, o_lenc, o_abs, o_min, o_max, o_tupl, o_tupt, o_sll, fin_f])
        have fine : ∀ e ∈ [Fk.D.bl true, .str zw, .tup [.int i1, .str z1, .int j1], kd, .int i2], gd e := fun e he => by
          simp only [List.mem_cons, List.not_mem_nil, or_false] at he
          rcases he with rfl | rfl | rfl | rfl | rfl
          · exact ⟨rfl, rfl⟩
          · exact gd_str hz
          · exact gd_id hz1
          · exact gk
          · exact ⟨rfl, rfl⟩
        refine take_ 29 d6.pot (by omega) (by decide) (by decide +kernel) fun u s7 u0 u1 d7 => ?_
        refine wp_at u0 (by simp; omega) fun f1 hf1 => ?_
        (try simp -implicitDefEqProofs only [exB_nil, exS_expr, exS_set, exS_setSub, exS_fz, exS_ife, exS_ret, exS_pass, den_nop, den_c, den_v, den_bin, den_neg, den_cmp, den_chain, den_and, den_or, den_not, den_ite, den_tup, den_lst, den_sub, den_rev, den_callv, exS_raise, exS_tryR, den_sl, den_call, den_blt, den_meth, denL_nil, denL_cons, WS_seq, WS_toS, WS_nx, WS_rt, WS_asB, WS_ite, WP_bind, WP_ok, WP_asB, WP_ite, bindP, setAll, List.set_cons_zero, List.set_cons_succ, List.getElem?_cons_zero, List.getElem?_cons_succ, decide_true, decide_false, if_true, if_false, Bool.false_eq_true, Bool.not_true, Bool.not_false, isNop, partR, o_add, o_sub, o_lt, o_le, o_gt, o_ge, o_eqi, o_nei, o_eqs, o_nes, o_in, o_notin, o_lent, o_lenl, o_lenc, o_abs, o_min, o_max, o_tupl, o_tupt, o_sll, fin_f])
        refine take_ 29 d7.pot (by omega) (by decide) (by decide +kernel) fun v s8 v0 v1 d8 => ?_
        refine wp_at v0 (by simp; omega) fun f2 hf2 => ?_
        (try simp -implicitDefEqProofs only [exB_nil, exS_expr, exS_set, exS_setSub, exS_fz, exS_ife, exS_ret, exS_pass, den_nop, den_c, den_v, den_bin, den_neg, den_cmp, den_chain, den_and, den_or, den_not, den_ite, den_tup, den_lst, den_sub, den_rev, den_callv, exS_raise, exS_tryR, den_sl, den_call, den_blt, den_meth, denL_nil, denL_cons, WS_seq, WS_toS, WS_nx, WS_rt, WS_asB, WS_ite, WP_bind, WP_ok, WP_asB, WP_ite, bindP, setAll, List.set_cons_zero, List.set_cons_succ, List.getElem?_cons_zero, List.getElem?_cons_succ, decide_true, decide_false, if_true, if_false, Bool.false_eq_true, Bool.not_true, Bool.not_false, isNop, partR, o_add, o_sub, o_lt, o_le, o_gt, o_ge, o_eqi, o_nei, o_eqs, o_nes, o_in, o_notin, o_lent, o_lenl, o_lenc, o_abs, o_min, o_max, o_tupl, o_tupt, o_sll, fin_f])
        refine d_odd 28 d8.pot (by omega) fun o1 s9 go1 d9 => ?_
        (try simp -implicitDefEqProofs only [exB_nil, exS_expr, exS_set, exS_setSub, exS_fz, exS_ife, exS_ret, exS_pass, den_nop, den_c, den_v, den_bin, den_neg, den_cmp, den_chain, den_and, den_or, den_not, den_ite, den_tup, den_lst, den_sub, den_rev, den_callv, exS_raise, exS_tryR, den_sl, den_call, den_blt, den_meth, denL_nil, denL_cons, WS_seq, WS_toS, WS_nx, WS_rt, WS_asB, WS_ite, WP_bind, WP_ok, WP_asB, WP_ite, bindP, setAll, List.set_cons_zero, List.set_cons_succ, List.getElem?_cons_zero, List.getElem?_cons_succ, decide_true, decide_false, if_true, if_false, Bool.false_eq_true, Bool.not_true, Bool.not_false, isNop, partR, o_add, o_sub, o_lt, o_le, o_gt, o_ge, o_eqi, o_nei, o_eqs, o_nes, o_in, o_notin, o_lent, o_lenl, o_lenc, o_abs, o_min, o_max, o_tupl, o_tupt, o_sll, fin_f])
        refine d_odd 28 d9.pot (by omega) fun o2 s10 go2 d10 => ?_
        (try simp -implicitDefEqProofs only [exB_nil, exS_expr, exS_set, exS_setSub, exS_fz, exS_ife, exS_ret, exS_pass, den_nop, den_c, den_v, den_bin, den_neg, den_cmp, den_chain, den_and, den_or, den_not, den_ite, den_tup, den_lst, den_sub, den_rev, den_callv, exS_raise, exS_tryR, den_sl, den_call, den_blt, den_meth, denL_nil, denL_cons, WS_seq, WS_toS, WS_nx, WS_rt, WS_asB, WS_ite, WP_bind, WP_ok, WP_asB, WP_ite, bindP, setAll, List.set_cons_zero, List.set_cons_succ, List.getElem?_cons_zero, List.getElem?_cons_succ, decide_true, decide_false, if_true, if_false, Bool.false_eq_true, Bool.not_true, Bool.not_false, isNop, partR, o_add, o_sub, o_lt, o_le, o_gt, o_ge, o_eqi, o_nei, o_eqs, o_nes, o_in, o_notin, o_lent, o_lenl, o_lenc, o_abs, o_min, o_max, o_tupl, o_tupt, o_sll, fin_f, it_lst])
        have D10 : Drew S r 0 (100 * i + 80) s10 := ((((((((d1.to d2 (m := 100 * i + 40) (by omega)).to d3 (m := 100 * i + 41) (by omega)).to d4 (m := 100 * i + 51) (by omega)).to d5 (m := 100 * i + 65) (by omega)).to d6 (m := 100 * i + 68) (by omega)).to d7 (m := 100 * i + 69) (by omega)).to d8 (m := 100 * i + 70) (by omega)).to d9 (m := 100 * i + 71) (by omega)).to d10 (by omega)
        refine ws_for (fun j env s' => s' = s10 ∧ ∃ e7, env = [some (.scr ns), some (.int k), some (.ref r), some (.str w), some (.tup ds), some kd, some (.lst [.bl true, .str zw, .tup [.int i1, .str z1, .int j1], kd, .int i2]), e7]) ⟨rfl, _, rfl⟩ (fun j t env s' hj ⟨hs', e7, he⟩ => ?_) (fun env s' ⟨hs', e7, he⟩ => ?_)
        · subst hs' he
          refine ⟨_, rfl, ?_⟩
          have gt : gd t := by
            have hmem := List.mem_of_getElem? hj
            simp only [List.mem_cons, List.not_mem_nil, or_false] at hmem
            rcases hmem with rfl | rfl | rfl | rfl
            · exact fine _ hf1
            · exact fine _ hf2
            · exact go1
            · exact go2
          have er := right_ 21 s' gpl gt
          simp -implicitDefEqProofs only [exB_cons, exB_nil, exS_expr, exS_set, exS_setSub, exS_fz, exS_ife, exS_ret, exS_pass, den_nop, den_c, den_v, den_bin, den_neg, den_cmp, den_chain, den_and, den_or, den_not, den_ite, den_tup, den_lst, den_sub, den_rev, den_callv, exS_raise, exS_tryR, den_sl, den_call, den_blt, den_meth, denL_nil, denL_cons, WS_seq, WS_toS, WS_nx, WS_rt, WS_asB, WS_ite, WP_bind, WP_ok, WP_asB, WP_ite, bindP, setAll, List.set_cons_zero, List.set_cons_succ, List.getElem?_cons_zero, List.getElem?_cons_succ, decide_true, decide_false, if_true, if_false, Bool.false_eq_true, Bool.not_true, Bool.not_false, isNop, partR, o_add, o_sub, o_lt, o_le, o_gt, o_ge, o_eqi, o_nei, o_eqs, o_nes, o_in, o_notin, o_lent, o_lenl, o_lenc, o_abs, o_min, o_max, o_tupl, o_tupt, o_sll, fin_f, er]
          exact ⟨trivial, _, rfl⟩
        · subst hs' he
          (try simp -implicitDefEqProofs only [exB_nil, exS_expr, exS_set, exS_setSub, exS_fz, exS_ife, exS_ret, exS_pass, den_nop, den_c, den_v, den_bin, den_neg, den_cmp, den_chain, den_and, den_or, den_not, den_ite, den_tup, den_lst, den_sub, den_rev, den_callv, exS_raise, exS_tryR, den_sl, den_call, den_blt, den_meth, denL_nil, denL_cons, WS_seq, WS_toS, WS_nx, WS_rt, WS_asB, WS_ite, WP_bind, WP_ok, WP_asB, WP_ite, bindP, setAll, List.set_cons_zero, List.set_cons_succ, List.getElem?_cons_zero, List.getElem?_cons_succ, decide_true, decide_false, if_true, if_false, Bool.false_eq_true, Bool.not_true, Bool.not_false, isNop, partR, o_add, o_sub, o_lt, o_le, o_gt, o_ge, o_eqi, o_nei, o_eqs, o_nes, o_in, o_notin, o_lent, o_lenl, o_lenc, o_abs, o_min, o_max, o_tupl, o_tupt, o_sll, fin_f])
          rw [exB_cons]
          simp -implicitDefEqProofs only [exB_nil, exS_expr, exS_set, exS_setSub, exS_fz, exS_ife, exS_ret, exS_pass, den_nop, den_c, den_v, den_bin, den_neg, den_cmp, den_chain, den_and, den_or, den_not, den_ite, den_tup, den_lst, den_sub, den_rev, den_callv, exS_raise, exS_tryR, den_sl, den_call, den_blt, den_meth, denL_nil, denL_cons, WS_seq, WS_toS, WS_nx, WS_rt, WS_asB, WS_ite, WP_bind, WP_ok, WP_asB, WP_ite, bindP, setAll, List.set_cons_zero, List.set_cons_succ, List.getElem?_cons_zero, List.getElem?_cons_succ, decide_true, decide_false, if_true, if_false, Bool.false_eq_true, Bool.not_true, Bool.not_false, isNop, partR, o_add, o_sub, o_lt, o_le, o_gt, o_ge, o_eqi, o_nei, o_eqs, o_nes, o_in, o_notin, o_lent, o_lenl, o_lenc, o_abs, o_min, o_max, o_tupl, o_tupt, o_sll, fin_f]
          refine d_bent 27 h0 h4 hds D10.pot (by omega) fun bd s11 gb d11 => ?_
          (try simp -implicitDefEqProofs only [exB_nil, exS_expr, exS_set, exS_setSub, exS_fz, exS_ife, exS_ret, exS_pass, den_nop, den_c, den_v, den_bin, den_neg, den_cmp, den_chain, den_and, den_or, den_not, den_ite, den_tup, den_lst, den_sub, den_rev, den_callv, exS_raise, exS_tryR, den_sl, den_call, den_blt, den_meth, denL_nil, denL_cons, WS_seq, WS_toS, WS_nx, WS_rt, WS_asB, WS_ite, WP_bind, WP_ok, WP_asB, WP_ite, bindP, setAll, List.set_cons_zero, List.set_cons_succ, List.getElem?_cons_zero, List.getElem?_cons_succ, decide_true, decide_false, if_true, if_false, Bool.false_eq_true, Bool.not_true, Bool.not_false, isNop, partR, o_add, o_sub, o_lt, o_le, o_gt, o_ge, o_eqi, o_nei, o_eqs, o_nes, o_in, o_notin, o_lent, o_lenl, o_lenc, o_abs, o_min, o_max, o_tupl, o_tupt, o_sll, fin_f])
          refine d_odd 28 d11.pot (by omega) fun o3 s12 go3 d12 => ?_
          have er := right_ 21 s12 gb go3
          (try simp -implicitDefEqProofs only [exB_nil, exS_expr, exS_set, exS_setSub, exS_fz, exS_ife, exS_ret, exS_pass, den_nop, den_c, den_v, den_bin, den_neg, den_cmp, den_chain, den_and, den_or, den_not, den_ite, den_tup, den_lst, den_sub, den_rev, den_callv, exS_raise, exS_tryR, den_sl, den_call, den_blt, den_meth, denL_nil, denL_cons, WS_seq, WS_toS, WS_nx, WS_rt, WS_asB, WS_ite, WP_bind, WP_ok, WP_asB, WP_ite, bindP, setAll, List.set_cons_zero, List.set_cons_succ, List.getElem?_cons_zero, List.getElem?_cons_succ, decide_true, decide_false, if_true, if_false, Bool.false_eq_true, Bool.not_true, Bool.not_false, isNop, partR, o_add, o_sub, o_lt, o_le, o_gt, o_ge, o_eqi, o_nei, o_eqs, o_nes, o_in, o_notin, o_lent, o_lenl, o_lenc, o_abs, o_min, o_max, o_tupl, o_tupt, o_sll, fin_f, er])
          (try simp -implicitDefEqProofs only [exB_cons, exB_nil, exS_expr, exS_set, exS_setSub, exS_fz, exS_ife, exS_ret, exS_pass, den_nop, den_c, den_v, den_bin, den_neg, den_cmp, den_chain, den_and, den_or, den_not, den_ite, den_tup, den_lst, den_sub, den_rev, den_callv, exS_raise, exS_tryR, den_sl, den_call, den_blt, den_meth, denL_nil, denL_cons, WS_seq, WS_toS, WS_nx, WS_rt, WS_asB, WS_ite, WP_bind, WP_ok, WP_asB, WP_ite, bindP, setAll, List.set_cons_zero, List.set_cons_succ, List.getElem?_cons_zero, List.getElem?_cons_succ, decide_true, decide_false, if_true, if_false, Bool.false_eq_true, Bool.not_true, Bool.not_false, isNop, partR, o_add, o_sub, o_lt, o_le, o_gt, o_ge, o_eqi, o_nei, o_eqs, o_nes, o_in, o_notin, o_lent, o_lenl, o_lenc, o_abs, o_min, o_max, o_tupl, o_tupt, o_sll, fin_f])
          exact ⟨(D10.to d11 (m := 100 * i + 90) (by omega)).to d12 (by omega), _, _, _, _, _, rfl⟩
      · subst he
        have hl8 : WORDS.length = 8 := rfl
        rw [hl8] at d1
        (try simp -implicitDefEqProofs only [exB_nil, exS_expr, exS_set, exS_setSub, exS_fz, exS_ife, exS_ret, exS_pass, den_nop, den_c, den_v, den_bin, den_neg, den_cmp, den_chain, den_and, den_or, den_not, den_ite, den_tup, den_lst, den_sub, den_rev, den_callv, exS_raise, exS_tryR, den_sl, den_call, den_blt, den_meth, denL_nil, denL_cons, WS_seq, WS_toS, WS_nx, WS_rt, WS_asB, WS_ite, WP_bind, WP_ok, WP_asB, WP_ite, bindP, setAll, List.set_cons_zero, List.set_cons_succ, List.getElem?_cons_zero, List.getElem?_cons_succ, decide_true, decide_false, if_true, if_false, Bool.false_eq_true, Bool.not_true, Bool.not_false, isNop, partR, o_add, o_sub, o_lt, o_le, o_gt, o_ge, o_eqi, o_nei, o_eqs, o_nes, o_in, o_notin, o_lent, o_lenl, o_lenc, o_abs, o_min, o_max, o_tupl, o_tupt, o_sll, fin_f])
        rw [exB_cons]
        simp -implicitDefEqProofs only [exB_nil, exS_expr, exS_set, exS_setSub, exS_fz, exS_ife, exS_ret, exS_pass, den_nop, den_c, den_v, den_bin, den_neg, den_cmp, den_chain, den_and, den_or, den_not, den_ite, den_tup, den_lst, den_sub, den_rev, den_callv, exS_raise, exS_tryR, den_sl, den_call, den_blt, den_meth, denL_nil, denL_cons, WS_seq, WS_toS, WS_nx, WS_rt, WS_asB, WS_ite, WP_bind, WP_ok, WP_asB, WP_ite, bindP, setAll, List.set_cons_zero, List.set_cons_succ, List.getElem?_cons_zero, List.getElem?_cons_succ, decide_true, decide_false, if_true, if_false, Bool.false_eq_true, Bool.not_true, Bool.not_false, isNop, partR, o_add, o_sub, o_lt, o_le, o_gt, o_ge, o_eqi, o_nei, o_eqs, o_nes, o_in, o_notin, o_lent, o_lenl, o_lenc, o_abs, o_min, o_max, o_tupl, o_tupt, o_sll, fin_f]
        refine d_odd 28 d1.pot (by omega) fun o3 s12 go3 d12 => ?_
        (try simp -implicitDefEqProofs only [exB_nil, exS_expr, exS_set, exS_setSub, exS_fz, exS_ife, exS_ret, exS_pass, den_nop, den_c, den_v, den_bin, den_neg, den_cmp, den_chain, den_and, den_or, den_not, den_ite, den_tup, den_lst, den_sub, den_rev, den_callv, exS_raise, exS_tryR, den_sl, den_call, den_blt, den_meth, denL_nil, denL_cons, WS_seq, WS_toS, WS_nx, WS_rt, WS_asB, WS_ite, WP_bind, WP_ok, WP_asB, WP_ite, bindP, setAll, List.set_cons_zero, List.set_cons_succ, List.getElem?_cons_zero, List.getElem?_cons_succ, decide_true, decide_false, if_true, if_false, Bool.false_eq_true, Bool.not_true, Bool.not_false, isNop, partR, o_add, o_sub, o_lt, o_le, o_gt, o_ge, o_eqi, o_nei, o_eqs, o_nes, o_in, o_notin, o_lent, o_lenl, o_lenc, o_abs, o_min, o_max, o_tupl, o_tupt, o_sll, fin_f])
        refine d_odd 28 d12.pot (by omega) fun o4 s13 go4 d13 => ?_
        have er := right_ 21 s13 go3 go4
        (try simp -implicitDefEqProofs only [exB_nil, exS_expr, exS_set, exS_setSub, exS_fz, exS_ife, exS_ret, exS_pass, den_nop, den_c, den_v, den_bin, den_neg, den_cmp, den_chain, den_and, den_or, den_not, den_ite, den_tup, den_lst, den_sub, den_rev, den_callv, exS_raise, exS_tryR, den_sl, den_call, den_blt, den_meth, denL_nil, denL_cons, WS_seq, WS_toS, WS_nx, WS_rt, WS_asB, WS_ite, WP_bind, WP_ok, WP_asB, WP_ite, bindP, setAll, List.set_cons_zero, List.set_cons_succ, List.getElem?_cons_zero, List.getElem?_cons_succ, decide_true, decide_false, if_true, if_false, Bool.false_eq_true, Bool.not_true, Bool.not_false, isNop, partR, o_add, o_sub, o_lt, o_le, o_gt, o_ge, o_eqi, o_nei, o_eqs, o_nes, o_in, o_notin, o_lent, o_lenl, o_lenc, o_abs, o_min, o_max, o_tupl, o_tupt, o_sll, fin_f, er])
        (try simp -implicitDefEqProofs only [exB_cons, exB_nil, exS_expr, exS_set, exS_setSub, exS_fz, exS_ife, exS_ret, exS_pass, den_nop, den_c, den_v, den_bin, den_neg, den_cmp, den_chain, den_and, den_or, den_not, den_ite, den_tup, den_lst, den_sub, den_rev, den_callv, exS_raise, exS_tryR, den_sl, den_call, den_blt, den_meth, denL_nil, denL_cons, WS_seq, WS_toS, WS_nx, WS_rt, WS_asB, WS_ite, WP_bind, WP_ok, WP_asB, WP_ite, bindP, setAll, List.set_cons_zero, List.set_cons_succ, List.getElem?_cons_zero, List.getElem?_cons_succ, decide_true, decide_false, if_true, if_false, Bool.false_eq_true, Bool.not_true, Bool.not_false, isNop, partR, o_add, o_sub, o_lt, o_le, o_gt, o_ge, o_eqi, o_nei, o_eqs, o_nes, o_in, o_notin, o_lent, o_lenl, o_lenc, o_abs, o_min, o_max, o_tupl, o_tupt, o_sll, fin_f])
        exact ⟨_, _, _, _, _, _, _, rfl⟩
    · subst he
      (try simp -implicitDefEqProofs only [exB_cons, exB_nil, exS_expr, exS_set, exS_setSub, exS_fz, exS_ife, exS_ret, exS_pass, den_nop, den_c, den_v, den_bin, den_neg, den_cmp, den_chain, den_and, den_or, den_not, den_ite, den_tup, den_lst, den_sub, den_rev, den_callv, exS_raise, exS_tryR, den_sl, den_call, den_blt, den_meth, denL_nil, denL_cons, WS_seq, WS_toS, WS_nx, WS_rt, WS_asB, WS_ite, WP_bind, WP_ok, WP_asB, WP_ite, bindP, setAll, List.set_cons_zero, List.set_cons_succ, List.getElem?_cons_zero, List.getElem?_cons_succ, decide_true, decide_false, if_true, if_false, Bool.false_eq_true, Bool.not_true, Bool.not_false, isNop, partR, o_add, o_sub, o_lt, o_le, o_gt, o_ge, o_eqi, o_nei, o_eqs, o_nes, o_in, o_notin, o_lent, o_lenl, o_lenc, o_abs, o_min, o_max, o_tupl, o_tupt, o_sll, fin_f])
  obtain ⟨d, s, e, rfl⟩ := main.ex
  exact ⟨s, e⟩
end Lw_k03


open PySem PySem.W PySem.Calls PyProof.Rows in
theorem PySem.Challenge.cw_forkrolls_k03_places_known_holds : PySem.Challenge.rw_forkrolls_k03_places_known.Holds := by
  w_on; o_law
  refine HandSHeadRun.head_any (r := OpenLaw.row PySem.Challenge.rw_forkrolls_k03_places_known) (q := view (OpenLaw.row PySem.Challenge.rw_forkrolls_k03_places_known).prog [48]) (H := Lw_k03.hk) (ob := Lw_k03.ob) (M := 30000) (loose := Lw_k03.loose) (d := HandSHeadRun.topDef (OpenLaw.row PySem.Challenge.rw_forkrolls_k03_places_known).prog 48) (kwd := []) Lw_k03.ob_eq
    (by kernel_rfl) (fun s => by kernel_rfl) Lw_k03.run (by kernel_rfl) (by kernel_rfl) (by kernel_rfl) (by rfl) (by first | assumption | decide +kernel) (by decide +kernel) ⟨rfl, rfl, rfl, rfl, rfl, by decide +kernel⟩ ?hw ?hc
  case hw => w_witness2
  case hc => exact L3.law_end (l := PySem.Challenge.rw_forkrolls_k03_places_known) Lw_k03.tab Lw_k03.ds 34 30 Lw_k03.fd34 rfl (by kernel_rfl) ⟨rfl, by decide, by decide⟩ (fun _ _ Y => Y) rfl (by kernel_rfl) rfl rfl Lw_k03.okAll Lw_k03.plain

