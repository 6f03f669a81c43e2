import PyProof.Rows.All
import HandS.ForMost
import KE.KeyNested
import KE.SortData
import KE.DataEq
import KE.DataCmp
import KE.DataFind
import KE.DataMinMax
import KE.DataAny
import HandS.TupMul
import HandS.Wide
import HandS.IsInst
import HandS.Conv
import KE.KDictCopyH
import KE.GoesEnum
import HandS.Zip
import HandS.DictComp
import HandS.Style
import PySem.Challenge.RW_lookonce_k15_the_greatest_stuck_lot
set_option Elab.async false
set_option linter.all false
set_option autoImplicit false
/-! LkCore: a small language of data, lists and dicts, its evaluator. -/
namespace LK
open PySem

inductive D where
  | non | bl (b : Bool) | int (i : Int) | str (s : Str) | tup (xs : List D) | ref (n : Nat)
  /-- a list that nobody changes (the script) -/
  | frl (xs : List D)

namespace D
mutual
def beq : D → D → Bool
  | .non, .non => true
  | .bl a, .bl b => a == b
  | .int a, .int b => decide (a = b)
  | .str a, .str b => decide (a = b)
  | .tup xs, .tup ys => beqL xs ys
  | .ref a, .ref b => a == b
  | .frl xs, .frl ys => beqL xs ys
  | _, _ => false
def beqL : List D → List D → Bool
  | [], [] => true
  | x :: xs, y :: ys => beq x y && beqL xs ys
  | _, _ => false
end
mutual
theorem beq_self : ∀ a : D, beq a a = true
  | .non => rfl
  | .bl a => by simp [beq]
  | .int a => by simp [beq]
  | .str a => by simp [beq]
  | .ref a => by simp [beq]
  | .tup xs => by rw [beq]; exact beqL_self xs
  | .frl xs => by rw [beq]; exact beqL_self xs
theorem beqL_self : ∀ a : List D, beqL a a = true
  | [] => rfl
  | x :: xs => by rw [beqL, beq_self x, beqL_self xs]; rfl
end
mutual
theorem eq_of_beq : ∀ a b : D, beq a b = true → a = b
  | .non, b, h => by cases b <;> simp_all [beq]
  | .bl a, b, h => by cases b <;> simp_all [beq]
  | .int a, b, h => by cases b <;> simp_all [beq]
  | .str a, b, h => by cases b <;> simp_all [beq]
  | .ref a, b, h => by cases b <;> simp_all [beq]
  | .tup xs, b, h => by
    cases b with
    | tup ys => rw [beq] at h; rw [eq_of_beqL xs ys h]
    | _ => simp [beq] at h
  | .frl xs, b, h => by
    cases b with
    | frl ys => rw [beq] at h; rw [eq_of_beqL xs ys h]
    | _ => simp [beq] at h
theorem eq_of_beqL : ∀ a b : List D, beqL a b = true → a = b
  | [], b, h => by cases b <;> simp_all [beqL]
  | x :: xs, b, h => by
    cases b with
    | nil => simp [beqL] at h
    | cons y ys =>
      rw [beqL, Bool.and_eq_true] at h
      rw [eq_of_beq x y h.1, eq_of_beqL xs ys h.2]
end
instance : DecidableEq D := fun a b => if h : beq a b = true then isTrue (eq_of_beq a b h) else isFalse fun e => h (e ▸ beq_self a)

mutual
/-- Python's ==, of data without lists -/
def eqv : D → D → Bool
  | .non, .non => true
  | .bl a, .bl b => a == b
  | .bl a, .int j => (if a then 1 else 0) == j
  | .int i, .bl b => i == (if b then 1 else 0)
  | .int a, .int b => a == b
  | .str a, .str b => a == b
  | .tup xs, .tup ys => eqvL xs ys
  | _, _ => false
def eqvL : List D → List D → Bool
  | [], [] => true
  | x :: xs, y :: ys => eqv x y && eqvL xs ys
  | _, _ => false
end

/-- data of depth k at most, without lists -/
def dok : Nat → D → Bool
  | _, .ref _ => false
  | _, .frl _ => false
  | 0, .tup _ => false
  | k + 1, .tup xs => xs.all (dok k)
  | _, .non => true
  | _, .bl _ => true
  | _, .int _ => true
  | _, .str _ => true
/-- a key: a number, a text, a tuple of such -/
def kok : Nat → D → Bool
  | _, .int _ => true
  | _, .str _ => true
  | k + 1, .tup xs => xs.all (kok k)
  | _, _ => false

mutual
/-- every list that it names is among the first n -/
def low (n : Nat) : D → Bool
  | .ref m => decide (m < n)
  | .tup xs => lowL n xs
  | .frl xs => lowL n xs
  | .non => true
  | .bl _ => true
  | .int _ => true
  | .str _ => true
def lowL (n : Nat) : List D → Bool
  | [] => true
  | x :: xs => low n x && lowL n xs
end

mutual
def toPy : D → PyData
  | .non => .none
  | .bl b => .bool b
  | .int i => .int i
  | .str s => .str s
  | .tup xs => .tuple (toPyL xs)
  | .ref _ => .none
  | .frl xs => .list (toPyL xs)
def toPyL : List D → List PyData
  | [] => []
  | x :: xs => toPy x :: toPyL xs
end
def isTup : D → Bool
  | .tup _ => true
  | _ => false
end D

inductive Cell where
  | lst (ds : List D)
  | dct (t : Bool) (kvs : List (D × D))
  | set (ds : List D)
  deriving DecidableEq
abbrev Hpp := List Cell
abbrev Env := List (Option D)

inductive Res (α : Type) where
  | ok (a : α) (G : Hpp)
  | ex (c : Str) (d : D) (G : Hpp)
  | bad
def Res.bind {α β : Type} (r : Res α) (f : α → Hpp → Res β) : Res β :=
  match r with
  | .ok a G => f a G
  | .ex c d G => .ex c d G
  | .bad => .bad
inductive Fl where
  | nx (ρ : Env) (G : Hpp)
  | bk (ρ : Env) (G : Hpp)
  | ct (ρ : Env) (G : Hpp)
  | rt (d : D) (G : Hpp)
  | ex (c : Str) (d : D) (ρ : Env) (G : Hpp)
  | bad

inductive Walk where
  | fix (ds : List D)
  | cell (n : Nat)
  | rng (lo : Int) (n : Nat)
  | enum (w : Walk)
  | zip (w v : Walk)
inductive R where
  | val (d : D)
  | newL (ds : List D)
  | newD (t : Bool) (kvs : List (D × D))
  | newS (ds : List D)

inductive Bop where
  | add | sub | mul | fdiv | mod | pow | shl | shr | band | bor
  deriving DecidableEq
inductive Cop where
  | eq | ne | lt | le | gt | ge | is | isn | isin | notin
  deriving DecidableEq
/-- a built-in over a sequence -/
inductive Sb where
  | tuple | list | sorted | sortedR | sum | all | any | min | max | set | dict
  deriving DecidableEq
inductive Ty where
  | int | bool | str | tuple | list
  deriving DecidableEq
inductive Tg where
  | one (i : Nat) | many (js : List Nat)
  deriving DecidableEq
inductive M0 where
  | pop
  deriving DecidableEq
inductive M1 where
  | append | extend | remove | pop | index | count
  deriving DecidableEq

mutual
inductive E where
  | int (i : Int) | bl (b : Bool) | non | str (s : Str)
  | var (i : Nat) | glob (x : Str)
  | tup (es : Es) | lst (es : Es) | dnew (t : Bool)
  | bin (op : Bop) (a b : E) | neg (a : E)
  | cmp (op : Cop) (a b : E) | chain (o p : Cop) (a b c : E)
  | and (a b : E) | or (a b : E) | not (a : E) | ite (c a b : E)
  | idx (a i : E) | slc (a lo hi : E)
  | call (f : Str) (es ks : Es) (dd : List D)
  | len (a : E) | abs (a : E) | int1 (a : E) | min2 (a b : E) | max2 (a b : E) | isi (a : E) (t : Ty)
  | seq (b : Sb) (a : E) | lrng (a b : E)
  | comp (e : E) (tg : Tg) (i : I) (ifs : Es)
  | dcomp (t : Bool) (k v : E) (tg : Tg) (i : I) (ifs : Es)
  | meth0 (m : M0) (o : E) | meth1 (m : M1) (o a : E)
inductive Es where
  | nil | cons (e : E) (r : Es)
inductive I where
  | ex (e : E) | rng1 (a : E) | rng2 (a b : E) | enum (a : E) | zip (a b : E) | items (a : E)
end
mutual
inductive S where
  | set (i : Nat) (e : E) | setT (js : List Nat) (e : E) | setI (o i e : E)
  | aug (i : Nat) (op : Bop) (e : E) | augI (o i : E) (op : Bop) (e : E)
  | expr (e : E) | ret (e : E) | retN
  | ite (c : E) (a b : Ss) | whl (c : E) (b : Ss) | for_ (tg : Tg) (i : I) (b : Ss)
  | brk | cnt | pass
  | raise (c : Str) (a : E)
  /-- never reached -/
  | never
  | try_ (b : Ss) (c : Str) (i : Nat) (h : Ss)
inductive Ss where
  | nil | cons (s : S) (r : Ss)
end
structure FnDef where
  np : Nat
  ns : Nat
  body : Ss

/-! ### values -/
/-- the longest list -/
def LIM : Nat := 1000000
def toD : R → Hpp → Res D
  | .val d, G => .ok d G
  | .newL ds, G => .ok (.ref G.length) (G ++ [.lst ds])
  | .newD t kvs, G => .ok (.ref G.length) (G ++ [.dct t kvs])
  | .newS ds, G => .ok (.ref G.length) (G ++ [.set ds])
/-- a list's items -/
def lstM : R → Hpp → Option (List D)
  | .newL ds, _ => some ds
  | .val (.ref n), G => match G[n]? with
    | some (.lst ds) => some ds
    | _ => none
  | _, _ => none
/-- .. that may be known -/
def lstOf : R → Hpp → Option (List D)
  | .val (.frl ds), _ => some ds
  | r, G => lstM r G
/-- a list's or a tuple's items -/
def seqOf : R → Hpp → Option (List D)
  | .val (.tup ds), _ => some ds
  | r, G => lstOf r G
inductive View where
  | sc (d : D) | ls (ds : List D)
def viewOf : R → Hpp → Option View
  | .val (.ref n), G => (lstOf (.val (.ref n)) G).map .ls
  | .val (.frl ds), _ => some (.ls ds)
  | .val d, _ => some (.sc d)
  | .newL ds, _ => some (.ls ds)
  | _, _ => none
def mulOk (i j : Int) : Bool := (decide (-(2 ^ 64) < i) && decide (i < 2 ^ 64)) || (decide (-(2 ^ 64) < j) && decide (j < 2 ^ 64))
def okV (d : D) (G : Hpp) : Res R := .ok (.val d) G
def repL (ds : List D) (k : Int) : List D := (List.replicate k.toNat ds).flatten
def binI (op : Bop) (i j : Int) (G : Hpp) : Res R :=
  match op with
  | .add => okV (.int (i + j)) G
  | .sub => okV (.int (i - j)) G
  | .mul => if mulOk i j = true then okV (.int (i * j)) G else .bad
  | .fdiv => if j ≠ 0 ∧ j.natAbs < 1073741824 then okV (.int (i.fdiv j)) G else .bad
  | .mod => if j ≠ 0 then okV (.int (i.fmod j)) G else .bad
  | .pow => if 0 ≤ j ∧ j ≤ 1000 ∧ i.natAbs < 2 ^ 64 then okV (.int (i ^ j.toNat)) G else .bad
  | .shl => if 0 ≤ j ∧ j ≤ 1000 ∧ i.natAbs < 2 ^ 64 then okV (.int (i * 2 ^ j.toNat)) G else .bad
  | .shr => if 0 ≤ j then okV (.int (i / 2 ^ j.toNat)) G else .bad
  | .band => okV (.int (Builtin.bitAnd i j)) G
  | .bor => okV (.int (Builtin.bitOr i j)) G
def binR (op : Bop) (r q : R) (G : Hpp) : Res R :=
  match r, q with
  | .val (.int i), .val (.int j) => binI op i j G
  | .val (.tup xs), .val (.tup ys) => match op with
    | .add => if xs.length + ys.length ≤ LIM then okV (.tup (xs ++ ys)) G else .bad
    | _ => .bad
  | .val (.tup xs), .val (.int k) => match op with
    | .mul => if 2 ≤ k ∧ k ≤ 1000 ∧ xs.length ≤ 1000 ∧ xs ≠ [] then okV (.tup (repL xs k)) G else .bad
    | _ => .bad
  | .val (.str x), .val (.str y) => match op with
    | .add => if x.length + y.length ≤ LIM then okV (.str (x ++ y)) G else .bad
    | _ => .bad
  | r, .val (.int k) => match lstM r G, op with
    | some xs, .mul => if 0 ≤ k ∧ k ≤ 1000 ∧ xs.length ≤ 1000 then .ok (.newL (repL xs k)) G else .bad
    | _, _ => .bad
  | r, q => match lstM r G, lstM q G, op with
    | some xs, some ys, .add => if xs.length + ys.length ≤ LIM then .ok (.newL (xs ++ ys)) G else .bad
    | _, _, _ => .bad
/-- one tuple lies behind the other, in Python's order -/
def ltD (a b : D) : Bool := W.dataLt a.toPy b.toPy
def alikeD (a b : D) : Bool := D.dok 60 a && D.dok 60 b && W.alike a.toPy b.toPy && decide (a ≠ .non)
def eqR (r q : R) (G : Hpp) : Option Bool :=
  match r, q with
  | .val (.int i), .val (.int j) => some (decide (i = j))
  | .val (.bl i), .val (.bl j) => some (decide (i = j))
  | .val (.str i), .val (.str j) => some (decide (i = j))
  | r, q => match viewOf r G, viewOf q G with
    | some (.sc a), some (.sc b) => if (D.dok 60 a && D.dok 60 b) = true then some (D.eqv a b) else none
    | some (.ls xs), some (.ls ys) => if (xs.all (D.dok 60) && ys.all (D.dok 60)) = true then some (D.eqvL xs ys) else none
    | some (.sc a), some (.ls ys) => if (D.dok 60 a && ys.all (D.dok 60)) = true then some false else none
    | some (.ls xs), some (.sc b) => if (xs.all (D.dok 60) && D.dok 60 b) = true then some false else none
    | _, _ => none
def isR (r q : R) : Option Bool :=
  match r, q with
  | .val a, .val .non => some (decide (a = .non))
  | .newL _, .val .non => some false
  | .val a, .val (.bl b) => some (decide (a = .bl b))
  | _, _ => none
def dfind (kvs : List (D × D)) (k : D) : Option D := (kvs.find? fun p => decide (p.1 = k)).map (·.2)
def keyFor (t : Bool) (k : D) : Bool := D.kok 8 k && (k.isTup == t)
def inR (x q : R) (G : Hpp) : Option Bool :=
  match x, q with
  | .val d, .val (.ref n) => match G[n]? with
    | some (.dct t kvs) => if keyFor t d = true then some (dfind kvs d).isSome else none
    | some (.lst ds) => if (D.dok 60 d && ds.all (D.dok 60)) = true then some (ds.any fun z => D.eqv z d) else none
    | _ => none
  | .val d, .val (.tup ds) => if (D.dok 60 d && ds.all (D.dok 60)) = true then some (ds.any fun z => D.eqv z d) else none
  | .val d, .newL ds => if (D.dok 60 d && ds.all (D.dok 60)) = true then some (ds.any fun z => D.eqv z d) else none
  | _, _ => none
def ordR (op : Cop) (r q : R) : Option Bool :=
  match r, q with
  | .val (.int i), .val (.int j) => match op with
    | .lt => some (decide (i < j))
    | .le => some (decide (i ≤ j))
    | .gt => some (decide (j < i))
    | .ge => some (decide (j ≤ i))
    | _ => none
  | .val a, .val b => if alikeD a b = true then match op with
    | .lt => some (ltD a b)
    | .le => some (!ltD b a)
    | .gt => some (ltD b a)
    | .ge => some (!ltD a b)
    | _ => none else none
  | _, _ => none
def cmpR (op : Cop) (r q : R) (G : Hpp) : Option Bool :=
  match op with
  | .eq => eqR r q G
  | .ne => (eqR r q G).map (!·)
  | .is => isR r q
  | .isn => (isR r q).map (!·)
  | .isin => inR r q G
  | .notin => (inR r q G).map (!·)
  | _ => ordR op r q
def optB (o : Option Bool) (G : Hpp) : Res R := match o with
  | some b => okV (.bl b) G
  | none => .bad
def idxR (r q : R) (G : Hpp) : Res R :=
  match r, q with
  | .val (.ref n), .val k => match G[n]? with
    | some (.dct t kvs) => if keyFor t k = true then match dfind kvs k with
      | some v => okV v G
      | none => .bad else .bad
    | some (.lst ds) => match k with
      | .int i => match L2.atI ds i with
        | some d => okV d G
        | none => .bad
      | _ => .bad
    | _ => .bad
  | r, .val (.int i) => match seqOf r G with
    | some ds => match L2.atI ds i with
      | some d => okV d G
      | none => .bad
    | none => .bad
  | _, _ => .bad
def cutD (ds : List D) (lo hi : Option Int) : List D :=
  (ds.drop (HT.sIx ds.length 0 lo)).take (HT.sIx ds.length ds.length hi - HT.sIx ds.length 0 lo)
def cutR (r : R) (l h : Option Int) (G : Hpp) : Res R :=
  match r with
  | .val (.tup ds) => okV (.tup (cutD ds l h)) G
  | r => match lstOf r G with
    | some ds => .ok (.newL (cutD ds l h)) G
    | none => .bad
def lenR (r : R) (G : Hpp) : Res R :=
  match r with
  | .val (.str s) => if s.length ≤ LIM then okV (.int s.length) G else .bad
  | .val (.ref n) => match G[n]? with
    | some (.lst ds) => okV (.int ds.length) G
    | _ => .bad
  | r => match seqOf r G with
    | some ds => okV (.int ds.length) G
    | none => .bad
def isiR (r : R) (t : Ty) (G : Hpp) : Option Bool :=
  match r with
  | .val .non => some false
  | .val (.bl _) => some (t == .bool || t == .int)
  | .val (.int _) => some (t == .int)
  | .val (.str _) => some (t == .str)
  | .val (.tup _) => some (t == .tuple)
  | .val (.ref n) => match G[n]? with
    | some (.lst _) => some (t == .list)
    | _ => none
  | .val (.frl _) => some (t == .list)
  | .newL _ => some (t == .list)
  | _ => none
/-- what a walk yields at turn i -/
inductive It3 where
  | stop | yld (d : D) | bad
def Walk.item : Walk → Nat → Hpp → It3
  | .fix ds, i, _ => match ds[i]? with
    | some d => .yld d
    | none => .stop
  | .cell n, i, G => match G[n]? with
    | some (.lst ds) => match ds[i]? with
      | some d => .yld d
      | none => .stop
    | _ => .bad
  | .rng lo n, i, _ => if i < n then .yld (.int (lo + i)) else .stop
  | .enum w, i, G => match w.item i G with
    | .yld d => .yld (.tup [.int i, d])
    | o => o
  | .zip w v, i, G => match w.item i G, v.item i G with
    | .bad, _ => .bad
    | _, .bad => .bad
    | .yld d, .yld e => .yld (.tup [d, e])
    | _, _ => .stop
def Walk.size : Walk → Hpp → Nat
  | .fix ds, _ => ds.length
  | .cell n, G => match G[n]? with
    | some (.lst ds) => ds.length
    | _ => 0
  | .rng _ n, _ => n
  | .enum w, G => w.size G
  | .zip w v, G => min (w.size G) (v.size G)
def R.isTup : R → Bool
  | .val (.tup _) => true
  | _ => false
def toWalk (r : R) (G : Hpp) : Res Walk :=
  match r with
  | .val (.tup ds) => .ok (.fix ds) G
  | .val (.ref n) => match G[n]? with
    | some (.lst _) => .ok (.cell n) G
    | _ => .bad
  | .newL ds => .ok (.fix ds) G
  | .val (.frl ds) => .ok (.fix ds) G
  | _ => .bad
def setSlot (ρ : Env) (i : Nat) (d : D) : Env := ρ.set i (some d)
def setSlots : Env → List Nat → List D → Option Env
  | ρ, [], [] => some ρ
  | ρ, i :: is, d :: ds => setSlots (ρ.set i (some d)) is ds
  | _, _, _ => none
def bindTg (tg : Tg) (d : D) (ρ : Env) : Option Env :=
  match tg with
  | .one i => some (ρ.set i (some d))
  | .many is => match d with
    | .tup ds => setSlots ρ is ds
    | _ => none
def noEx {α : Type} (r : Res α) : Res α := match r with
  | .ok a G => .ok a G
  | _ => .bad
/-- a comprehension's loop: acc holds what is made -/
def compF (f : D → Hpp → Res (Option D)) (w : Walk) : Nat → Nat → List D → Hpp → Res (List D)
  | 0, _, _, _ => .bad
  | n + 1, i, acc, G => match w.item i G with
    | .stop => .ok acc G
    | .bad => .bad
    | .yld d => (f d G).bind fun o G1 => match o with
      | some x => if acc.length < LIM then compF f w n (i + 1) (acc ++ [x]) G1 else .bad
      | none => compF f w n (i + 1) acc G1
def dput (kvs : List (D × D)) (k v : D) : List (D × D) :=
  if (dfind kvs k).isSome then kvs.map fun p => if p.1 = k then (p.1, v) else p else kvs ++ [(k, v)]
def dcompF (f : D → Hpp → Res (Option (D × D))) (w : Walk) : Nat → Nat → List (D × D) → Hpp → Res (List (D × D))
  | 0, _, _, _ => .bad
  | n + 1, i, acc, G => match w.item i G with
    | .stop => .ok acc G
    | .bad => .bad
    | .yld d => (f d G).bind fun o G1 => match o with
      | some (k, v) => if keyFor false k = true ∧ acc.length < LIM then dcompF f w n (i + 1) (dput acc k v) G1 else .bad
      | none => dcompF f w n (i + 1) acc G1
/-- a comprehension's turn: fT its tests, fE its item -/
def compV (tg : Tg) (fT : Env → Hpp → Res Bool) (fE : Env → Hpp → Res R) (ρ : Env) (d : D) (G : Hpp) : Res (Option D) :=
  match bindTg tg d ρ with
  | some ρ1 => (noEx (fT ρ1 G)).bind fun b G3 => if b = true then (noEx ((fE ρ1 G3).bind toD)).bind fun x G4 => .ok (some x) G4 else .ok none G3
  | none => .bad
def dcompV (tg : Tg) (fT : Env → Hpp → Res Bool) (fK fE : Env → Hpp → Res R) (ρ : Env) (d : D) (G : Hpp) : Res (Option (D × D)) :=
  match bindTg tg d ρ with
  | some ρ1 => (noEx (fT ρ1 G)).bind fun b G3 => if b = true then (noEx ((fK ρ1 G3).bind toD)).bind fun x G4 => (noEx ((fE ρ1 G4).bind toD)).bind fun y G5 => .ok (some (x, y)) G5 else .ok none G3
  | none => .bad
def intsOf : List D → Option (List Int)
  | [] => some []
  | .int i :: r => (intsOf r).map (i :: ·)
  | _ => none
def blsOf : List D → Option (List Bool)
  | [] => some []
  | .bl i :: r => (blsOf r).map (i :: ·)
  | _ => none
def leD (a b : D) : Bool := !ltD b a
def alikeAllD (ds : List D) : Bool := ds.all fun a => ds.all fun b => alikeD a b
def minD : D → List D → D
  | x, [] => x
  | x, y :: r => minD (if ltD y x then y else x) r
def maxD : D → List D → D
  | x, [] => x
  | x, y :: r => maxD (if ltD x y then y else x) r
/-- sorted takes numbers, texts, tuples that are not empty -/
def sortOk (ds : List D) : Bool := alikeAllD ds && (ds.all fun d => match d with
  | .tup [] => false
  | _ => true)
def seqC (b : Sb) (ds : List D) (G : Hpp) : Res R :=
  match b with
  | .list => .ok (.newL ds) G
  | .sorted => if sortOk ds = true then .ok (.newL (ds.mergeSort leD)) G else .bad
  | _ => .bad
def seqT (b : Sb) (ds : List D) (G : Hpp) : Res R :=
  match b with
  | .tuple => okV (.tup ds) G
  | .min => match ds with
    | x :: r => if alikeAllD (x :: r) = true then okV (minD x r) G else .bad
    | [] => .bad
  | .max => match ds with
    | x :: r => if alikeAllD (x :: r) = true then okV (maxD x r) G else .bad
    | [] => .bad
  | b => seqC b ds G
def seqL (b : Sb) (ds : List D) (G : Hpp) : Res R :=
  match b with
  | .sum => match intsOf ds with
    | some is => okV (.int is.sum) G
    | none => .bad
  | .all => match blsOf ds with
    | some bs => okV (.bl (bs.all id)) G
    | none => .bad
  | .any => match blsOf ds with
    | some bs => okV (.bl (bs.any id)) G
    | none => .bad
  | b => seqT b ds G
def seqR (b : Sb) (r : R) (G : Hpp) : Res R :=
  match r with
  | .val (.tup ds) => seqT b ds G
  | .val (.frl ds) => seqL b ds G
  | .newL ds => seqL b ds G
  | .val (.ref n) => match G[n]? with
    | some (.lst ds) => seqL b ds G
    | some (.dct _ kvs) => seqC b (kvs.map (·.1)) G
    | _ => .bad
  | .newD _ kvs => seqC b (kvs.map (·.1)) G
  | _ => .bad
def meth1R (m : M1) (o a : R) (G : Hpp) : Res R :=
  match m, o with
  | .append, .val (.ref n) => match G[n]? with
    | some (.lst ds) => if ds.length < LIM then (toD a G).bind fun d G1 => .ok (.val .non) (G1.set n (.lst (ds ++ [d]))) else .bad
    | _ => .bad
  | .extend, .val (.ref n) => match G[n]?, lstM a G with
    | some (.lst ds), some xs => if ds.length + xs.length ≤ LIM then .ok (.val .non) (G.set n (.lst (ds ++ xs))) else .bad
    | _, _ => .bad
  | .remove, .val (.ref n) => match G[n]?, a with
    | some (.lst ds), .val d => if (D.dok 60 d && ds.all (D.dok 60)) = true then match ds.findIdx? (fun z => D.eqv z d) with
      | some j => .ok (.val .non) (G.set n (.lst (ds.eraseIdx j)))
      | none => .bad else .bad
    | _, _ => .bad
  | .pop, .val (.ref n) => match G[n]?, a with
    | some (.lst ds), .val (.int i) => match L2.ixN ds.length i with
      | some j => match ds[j]? with
        | some d => .ok (.val d) (G.set n (.lst (ds.eraseIdx j)))
        | none => .bad
      | none => .bad
    | _, _ => .bad
  | _, _ => .bad
def meth0R (m : M0) (o : R) (G : Hpp) : Res R :=
  match m, o with
  | .pop, .val (.ref n) => match G[n]? with
    | some (.lst ds) => match ds.getLast? with
      | some d => .ok (.val d) (G.set n (.lst ds.dropLast))
      | none => .bad
    | _ => .bad
  | _, _ => .bad

/-- a part of a slice: absent, or a number -/
def partF (e : E) (f : Hpp → Res R) (G : Hpp) : Res (Option Int) :=
  match e with
  | .non => .ok none G
  | _ => (f G).bind fun r G1 => match r with
    | .val (.int i) => .ok (some i) G1
    | _ => .bad
abbrev CallF := Str → List D → Hpp → Res D
section
variable (C : CallF) (Γ : Str → Option D)
mutual
def ev : E → Env → Hpp → Res R
  | .int i, _, G => okV (.int i) G
  | .bl b, _, G => okV (.bl b) G
  | .non, _, G => okV .non G
  | .str s, _, G => okV (.str s) G
  | .var i, ρ, G => match ρ[i]? with
    | some (some d) => okV d G
    | _ => .bad
  | .glob x, _, G => match Γ x with
    | some d => okV d G
    | none => .bad
  | .tup es, ρ, G => (evs es ρ G).bind fun ds G1 => okV (.tup ds) G1
  | .lst es, ρ, G => (evs es ρ G).bind fun ds G1 => .ok (.newL ds) G1
  | .dnew t, _, G => .ok (.newD t []) G
  | .bin op a b, ρ, G => (ev a ρ G).bind fun x G1 => (ev b ρ G1).bind fun y G2 => binR op x y G2
  | .neg a, ρ, G => (ev a ρ G).bind fun x G1 => match x with
    | .val (.int i) => okV (.int (-i)) G1
    | _ => .bad
  | .cmp op a b, ρ, G => (ev a ρ G).bind fun x G1 => (ev b ρ G1).bind fun y G2 => optB (cmpR op x y G2) G2
  | .chain o p a b c, ρ, G => (ev a ρ G).bind fun x G1 => (ev b ρ G1).bind fun y G2 => match cmpR o x y G2 with
    | some true => (ev c ρ G2).bind fun z G3 => optB (cmpR p y z G3) G3
    | some false => okV (.bl false) G2
    | none => .bad
  | .and a b, ρ, G => (ev a ρ G).bind fun x G1 => match x with
    | .val (.bl true) => ev b ρ G1
    | .val (.bl false) => okV (.bl false) G1
    | _ => .bad
  | .or a b, ρ, G => (ev a ρ G).bind fun x G1 => match x with
    | .val (.bl true) => okV (.bl true) G1
    | .val (.bl false) => ev b ρ G1
    | _ => .bad
  | .not a, ρ, G => (ev a ρ G).bind fun x G1 => match x with
    | .val (.bl b) => okV (.bl (!b)) G1
    | _ => .bad
  | .ite c a b, ρ, G => (ev c ρ G).bind fun x G1 => match x with
    | .val (.bl true) => ev a ρ G1
    | .val (.bl false) => ev b ρ G1
    | _ => .bad
  | .idx a i, ρ, G => (ev a ρ G).bind fun x G1 => (ev i ρ G1).bind fun y G2 => idxR x y G2
  | .slc a lo hi, ρ, G => (ev a ρ G).bind fun x G1 => (partF lo (fun G2 => ev lo ρ G2) G1).bind fun l G2 => (partF hi (fun G3 => ev hi ρ G3) G2).bind fun h G3 => cutR x l h G3
  | .call f es ks dd, ρ, G => (evs es ρ G).bind fun ds G1 => (evs ks ρ G1).bind fun zs G2 => (C f (ds ++ zs ++ dd) G2).bind fun d G3 => okV d G3
  | .len a, ρ, G => (ev a ρ G).bind fun x G1 => lenR x G1
  | .abs a, ρ, G => (ev a ρ G).bind fun x G1 => match x with
    | .val (.int i) => okV (.int (if i < 0 then -i else i)) G1
    | _ => .bad
  | .int1 a, ρ, G => (ev a ρ G).bind fun x G1 => match x with
    | .val (.int i) => okV (.int i) G1
    | .val (.bl b) => okV (.int (if b then 1 else 0)) G1
    | _ => .bad
  | .min2 a b, ρ, G => (ev a ρ G).bind fun x G1 => (ev b ρ G1).bind fun y G2 => match x, y with
    | .val (.int i), .val (.int j) => okV (.int (if j < i then j else i)) G2
    | _, _ => .bad
  | .max2 a b, ρ, G => (ev a ρ G).bind fun x G1 => (ev b ρ G1).bind fun y G2 => match x, y with
    | .val (.int i), .val (.int j) => okV (.int (if j > i then j else i)) G2
    | _, _ => .bad
  | .isi a t, ρ, G => (ev a ρ G).bind fun x G1 => optB (isiR x t G1) G1
  | .seq b a, ρ, G => (ev a ρ G).bind fun x G1 => seqR b x G1
  | .lrng a b, ρ, G => (ev a ρ G).bind fun x G1 => (ev b ρ G1).bind fun y G2 => match x, y with
    | .val (.int i), .val (.int j) => if (-(LIM : Int) ≤ i ∧ i ≤ LIM) ∧ -(LIM : Int) ≤ j ∧ j ≤ LIM then .ok (.newL ((List.range (j - i).toNat).map fun (k : Nat) => .int (i + k))) G2 else .bad
    | _, _ => .bad
  | .comp e tg i ifs, ρ, G => (evI i ρ G).bind fun w G1 => (compF (compV tg (fun ρ G => evIf ifs ρ G) (fun ρ G => ev e ρ G) ρ) w (w.size G1 + 1) 0 [] G1).bind fun ds G2 => .ok (.newL ds) G2
  | .dcomp _ k v tg i ifs, ρ, G => (evI i ρ G).bind fun w G1 => (dcompF (dcompV tg (fun ρ G => evIf ifs ρ G) (fun ρ G => ev k ρ G) (fun ρ G => ev v ρ G) ρ) w (w.size G1 + 1) 0 [] G1).bind fun kvs G2 => .ok (.newD false kvs) G2
  | .meth0 m o, ρ, G => (ev o ρ G).bind fun x G1 => if (lstM x G1).isSome = true then meth0R m x G1 else .bad
  | .meth1 m o a, ρ, G => (ev o ρ G).bind fun x G1 => if (lstM x G1).isSome = true then (ev a ρ G1).bind fun y G2 => meth1R m x y G2 else .bad
def evs : Es → Env → Hpp → Res (List D)
  | .nil, _, G => .ok [] G
  | .cons e r, ρ, G => ((ev e ρ G).bind toD).bind fun d G1 => (evs r ρ G1).bind fun ds G2 => .ok (d :: ds) G2
/-- a comprehension's tests -/
def evIf : Es → Env → Hpp → Res Bool
  | .nil, _, G => .ok true G
  | .cons e r, ρ, G => (ev e ρ G).bind fun x G1 => match x with
    | .val (.bl true) => evIf r ρ G1
    | .val (.bl false) => .ok false G1
    | _ => .bad
def evI : I → Env → Hpp → Res Walk
  | .ex e, ρ, G => (ev e ρ G).bind toWalk
  | .rng1 a, ρ, G => (ev a ρ G).bind fun x G1 => match x with
    | .val (.int j) => if -(LIM : Int) ≤ j ∧ j ≤ LIM then .ok (.rng 0 j.toNat) G1 else .bad
    | _ => .bad
  | .rng2 a b, ρ, G => (ev a ρ G).bind fun x G1 => (ev b ρ G1).bind fun y G2 => match x, y with
    | .val (.int i), .val (.int j) => if (-(LIM : Int) ≤ i ∧ i ≤ LIM) ∧ -(LIM : Int) ≤ j ∧ j ≤ LIM then .ok (.rng i (j - i).toNat) G2 else .bad
    | _, _ => .bad
  | .enum a, ρ, G => (ev a ρ G).bind fun x G1 => (toWalk x G1).bind fun w G2 => .ok (.enum w) G2
  | .zip a b, ρ, G => (ev a ρ G).bind fun x G1 => (ev b ρ G1).bind fun y G2 => if x.isTup = y.isTup then (toWalk x G2).bind fun w G3 => (toWalk y G3).bind fun v G4 => .ok (.zip w v) G4 else .bad
  | .items _, _, _ => .bad
end
/-- a for's loop -/
def loopF (f : D → Env → Hpp → Fl) (w : Walk) : Nat → Nat → Env → Hpp → Fl
  | 0, _, _, _ => .bad
  | n + 1, i, ρ, G => match w.item i G with
    | .stop => .nx ρ G
    | .bad => .bad
    | .yld d => match f d ρ G with
      | .nx ρ1 G1 => loopF f w n (i + 1) ρ1 G1
      | .ct ρ1 G1 => loopF f w n (i + 1) ρ1 G1
      | .bk ρ1 G1 => .nx ρ1 G1
      | r => r
def whileF (c : Env → Hpp → Res R) (f : Env → Hpp → Fl) : Nat → Env → Hpp → Fl
  | 0, _, _ => .bad
  | n + 1, ρ, G => match c ρ G with
    | .ok (.val (.bl true)) G1 => match f ρ G1 with
      | .nx ρ1 G2 => whileF c f n ρ1 G2
      | .ct ρ1 G2 => whileF c f n ρ1 G2
      | .bk ρ1 G2 => .nx ρ1 G2
      | r => r
    | .ok (.val (.bl false)) G1 => .nx ρ G1
    | .ex cl d G1 => .ex cl d ρ G1
    | _ => .bad
def WF : Nat := 1000000
def resF {α : Type} (r : Res α) (ρ : Env) (f : α → Hpp → Fl) : Fl := match r with
  | .ok a G => f a G
  | .ex c d G => .ex c d ρ G
  | .bad => .bad
/-- o[i] = v -/
def setIR (o i : R) (v : D) (G : Hpp) : Option Hpp :=
  match o, i with
  | .val (.ref n), .val k => match G[n]? with
    | some (.dct t kvs) => if keyFor t k = true ∧ kvs.length < LIM then some (G.set n (.dct t (dput kvs k v))) else none
    | some (.lst ds) => match k with
      | .int j => match L2.ixN ds.length j with
        | some m => some (G.set n (.lst (ds.set m v)))
        | none => none
      | _ => none
    | _ => none
  | _, _ => none
mutual
def exS : S → Env → Hpp → Fl
  | .set i e, ρ, G => resF ((ev C Γ e ρ G).bind toD) ρ fun d G1 => .nx (ρ.set i (some d)) G1
  | .setT is e, ρ, G => resF (ev C Γ e ρ G) ρ fun x G1 => match x with
    | .val (.tup ds) => match setSlots ρ is ds with
      | some ρ1 => .nx ρ1 G1
      | none => .bad
    | _ => .bad
  | .setI o i e, ρ, G => resF ((ev C Γ e ρ G).bind toD) ρ fun d G1 => resF (ev C Γ o ρ G1) ρ fun x G2 => resF (ev C Γ i ρ G2) ρ fun y G3 => match setIR x y d G3 with
    | some G4 => .nx ρ G4
    | none => .bad
  | .aug i op e, ρ, G => match ρ[i]? with
    | some (some d) => resF (ev C Γ e ρ G) ρ fun y G1 => match d, y with
      | .int a, .val (.int b) => resF ((binI op a b G1).bind toD) ρ fun z G2 => .nx (ρ.set i (some z)) G2
      | _, _ => .bad
    | _ => .bad
  | .augI o i op e, ρ, G => resF (ev C Γ o ρ G) ρ fun x G1 => resF (ev C Γ i ρ G1) ρ fun y G2 => resF (idxR x y G2) ρ fun d G3 => resF (ev C Γ e ρ G3) ρ fun z G4 => match d, z with
    | .val (.int a), .val (.int b) => resF ((binI op a b G4).bind toD) ρ fun v G5 => match setIR x y v G5 with
      | some G6 => .nx ρ G6
      | none => .bad
    | _, _ => .bad
  | .expr e, ρ, G => resF (ev C Γ e ρ G) ρ fun _ G1 => .nx ρ G1
  | .ret e, ρ, G => resF ((ev C Γ e ρ G).bind toD) ρ fun d G1 => .rt d G1
  | .retN, _, G => .rt .non G
  | .ite c a b, ρ, G => resF (ev C Γ c ρ G) ρ fun x G1 => match x with
    | .val (.bl true) => exSs a ρ G1
    | .val (.bl false) => exSs b ρ G1
    | _ => .bad
  | .whl c b, ρ, G => whileF (fun ρ1 G1 => ev C Γ c ρ1 G1) (fun ρ1 G1 => exSs b ρ1 G1) WF ρ G
  | .for_ tg i b, ρ, G => resF (evI C Γ i ρ G) ρ fun w G1 => loopF (fun d ρ1 G2 => match bindTg tg d ρ1 with
    | some ρ2 => exSs b ρ2 G2
    | none => .bad) w (w.size G1 + 1) 0 ρ G1
  | .brk, ρ, G => .bk ρ G
  | .cnt, ρ, G => .ct ρ G
  | .pass, ρ, G => .nx ρ G
  | .raise c a, ρ, G => resF ((ev C Γ a ρ G).bind toD) ρ fun d G1 => .ex c d ρ G1
  | .try_ _ _ _ _, _, _ => .bad
  | .never, _, _ => .bad
def exSs : Ss → Env → Hpp → Fl
  | .nil, ρ, G => .nx ρ G
  | .cons s r, ρ, G => match exS s ρ G with
    | .nx ρ1 G1 => exSs r ρ1 G1
    | o => o
end
end

/-! ### calls -/
def Cell.low (n : Nat) : Cell → Bool
  | .lst ds => D.lowL n ds
  | .dct _ kvs => kvs.all fun p => D.low n p.1 && D.low n p.2
  | .set ds => D.lowL n ds
/-- the cells that stood before are as they were, or name old ones alone -/
def oldOk (G G1 : Hpp) : Bool := (List.range G.length).all fun i => decide (G1[i]? = G[i]?) || (match G1[i]? with
  | some c => c.low G.length
  | none => false)
/-- behind a call: new cells that the result does not name are forgotten -/
def gc (G : Hpp) (v : D) (G1 : Hpp) : Res D :=
  if oldOk G G1 = true ∧ G.length ≤ G1.length then
    if v.low G.length = true then .ok v (G1.take G.length)
    else match v with
      | .ref m => match G1[m]? with
        | some c => if c.low G.length = true then .ok (.ref G.length) (G1.take G.length ++ [c]) else .ok v G1
        | none => .bad
      | _ => .ok v G1
  else .ok v G1
abbrev Tab := Str → Option FnDef
def callF (T : Tab) (Γ : Str → Option D) : Nat → CallF
  | 0 => fun _ _ _ => .bad
  | d + 1 => fun f args G => match T f with
    | none => .bad
    | some fd => if args.length = fd.np then match exSs (callF T Γ d) Γ fd.body (args.map some ++ List.replicate (fd.ns - fd.np) none) G with
      | .rt v G1 => gc G v G1
      | .nx _ G1 => gc G .non G1
      | .ex c v _ G1 => if (oldOk G G1 && v.low G.length) = true ∧ G.length ≤ G1.length then .ex c v (G1.take G.length) else .bad
      | _ => .bad else .bad
end LK

set_option Elab.async false
set_option linter.all false
set_option autoImplicit false
set_option maxRecDepth 100000
/-! LkRep: how the language's values and cells lie in the abstract heap of HandS. -/
namespace LK
open PySem PySem.Spec PyProof.Rows L2

mutual
def nk : D → NestedKey
  | .int i => .num i
  | .str s => .text s
  | .tup xs => .tup (nkL xs)
  | .bl b => .num (if b = true then 1 else 0)
  | .non => .none
  | .ref _ => .none
  | .frl _ => .none
def nkL : List D → List NestedKey
  | [] => []
  | x :: xs => nk x :: nkL xs
end

/-- a list that is known and never written -/
def Frl (K : PySem.W.Frag) (H : Hp) (a : Addr) (xs : List V) : Prop :=
  (∃ o, H a = some (.frz o (.lst xs))) ∨
    ∃ (o : Obj) (its : Array Value) (n : Nat), K.lookup a = some o ∧ o.cls = .type "list" ∧ o.dict = none ∧ o.data = .seq its n ∧ its.size ≤ sizeLine ∧ Vals xs its.toList
theorem Frl.sql {K : PySem.W.Frag} {H : Hp} {a : Addr} {xs : List V} (h : Frl K H a xs) : SqL K H a xs := by
  rcases h with ⟨o, h⟩ | h
  · exact .inl (.inr ⟨o, h⟩)
  · exact .inr h

mutual
inductive RV (K : PySem.W.Frag) (ι : List Addr) (H : Hp) : V → D → Prop
  | non : RV K ι H .non .non
  | bl (b : Bool) : RV K ι H (.bl b) (.bl b)
  | int (i : Int) : RV K ι H (.int i) (.int i)
  | str (s : Str) : RV K ι H (.str s) (.str s)
  | tup {a : Addr} {xs : List V} {ds : List D} : SqT K H a xs → RVs K ι H xs ds → RV K ι H (.ref a) (.tup ds)
  | ref {a : Addr} {n : Nat} : ι[n]? = some a → RV K ι H (.ref a) (.ref n)
  | frl {a : Addr} {xs : List V} {ds : List D} : Frl K H a xs → RVs K ι H xs ds → RV K ι H (.ref a) (.frl ds)
inductive RVs (K : PySem.W.Frag) (ι : List Addr) (H : Hp) : List V → List D → Prop
  | nil : RVs K ι H [] []
  | cons {v : V} {vs : List V} {d : D} {ds : List D} : RV K ι H v d → RVs K ι H vs ds → RVs K ι H (v :: vs) (d :: ds)
end

section
variable (P : Program) (w : World) (K : PySem.W.Frag)
/-- a dict whose keys are tuples -/
def DictOb (a : Addr) (xs : List (NestedKey × Addr × Value)) : HO := .ext fun h =>
  (a == sysModules) = false ∧ ∃ o es ep, h.get? a = some o ∧ o.ExactDict ∧ o.data = .dict es ep ∧ es.toList = xs.map (entryOfKey (nestedKind P w)) ∧ (xs.map (·.1)).Nodup
def DctOk (ι : List Addr) (H : Hp) (a : Addr) (t : Bool) (kvs : List (D × D)) : Prop :=
  match t with
  | false => ∃ ks : List (Key × V), H a = some (.dK ks) ∧ Paired (fun (q : Key × V) (p : D × D) => RV K ι H (kV q.1) p.1 ∧ RV K ι H q.2 p.2) ks kvs
  | true => ∃ xs, H a = some (DictOb P w a xs) ∧ kvs.length ≤ LIM ∧
      Paired (fun (x : NestedKey × Addr × Value) (p : D × D) => x.1 = nk p.1 ∧ D.kok 8 p.1 = true ∧ p.1.isTup = true ∧ RV K ι H (.ref x.2.1) p.1 ∧ ∃ y, RelV y x.2.2 ∧ RV K ι H y p.2) xs kvs
def CellOk (ι : List Addr) (H : Hp) (a : Addr) : Cell → Prop
  | .lst ds => ∃ xs, H a = some (.lst xs) ∧ RVs K ι H xs ds
  | .dct t kvs => DctOk P w K ι H a t kvs
  | .set _ => False
structure HR (ι : List Addr) (G : Hpp) (H : Hp) : Prop where
  len : ι.length = G.length
  nd : ι.Nodup
  cell : ∀ (n : Nat) (c : Cell) (a : Addr), G[n]? = some c → ι[n]? = some a → CellOk P w K ι H a c
end
def ER (K : PySem.W.Frag) (ι : List Addr) (H : Hp) (σ : L2.St) (ρ : Env) : Prop := σ.length = ρ.length ∧ ∀ (i : Nat) (d : D), ρ[i]? = some (some d) → ∃ v, σ[i]? = some (some v) ∧ RV K ι H v d

/-- what a piece of code leaves -/
structure Fr2 (ι : List Addr) (H : Hp) (ι' : List Addr) (H' : Hp) : Prop where
  pre : ι <+: ι'
  fresh : ∀ (n : Nat) (a : Addr), ι.length ≤ n → ι'[n]? = some a → H a = none
  ext : ∀ (a : Addr) (o : HO), H a = some o → a ∉ ι → H' a = some o

section
variable {P : Program} {w : World} {K : PySem.W.Frag} {ι ι' ι2 : List Addr} {G G' : Hpp} {H H' H2 : Hp}
theorem Fr2.refl : Fr2 ι H ι H := ⟨List.prefix_refl _, fun n a h e => (by rw [List.getElem?_eq_none h] at e; cases e), fun _ _ h _ => h⟩
theorem CellOk.there {a : Addr} {c : Cell} (h : CellOk P w K ι H a c) : ∃ o, H a = some o := by
  cases c with
  | lst ds => obtain ⟨xs, h, _⟩ := h; exact ⟨_, h⟩
  | dct t kvs =>
    cases t with
    | false => obtain ⟨ks, h, _⟩ := h; exact ⟨_, h⟩
    | true => obtain ⟨ks, h, _⟩ := h; exact ⟨_, h⟩
  | set ds => exact False.elim h
theorem HR.at (r : HR P w K ι G H) {n : Nat} {a : Addr} (e : ι[n]? = some a) : ∃ c, G[n]? = some c ∧ CellOk P w K ι H a c := by
  have h1 : n < ι.length := (List.getElem?_eq_some_iff.mp e).1
  have h2 : n < G.length := by rw [← r.len]; exact h1
  exact ⟨G[n], List.getElem?_eq_getElem h2, r.cell n _ a (List.getElem?_eq_getElem h2) e⟩
theorem HR.addr (r : HR P w K ι G H) {n : Nat} {c : Cell} (e : G[n]? = some c) : ∃ a, ι[n]? = some a ∧ CellOk P w K ι H a c := by
  have h1 : n < G.length := (List.getElem?_eq_some_iff.mp e).1
  have h2 : n < ι.length := by rw [r.len]; exact h1
  exact ⟨ι[n], List.getElem?_eq_getElem h2, r.cell n c _ e (List.getElem?_eq_getElem h2)⟩
theorem HR.live (r : HR P w K ι G H) {a : Addr} (h : a ∈ ι) : ∃ o, H a = some o := by
  obtain ⟨n, e⟩ := List.mem_iff_getElem?.mp h
  obtain ⟨c, _, hc⟩ := r.at e
  exact hc.there
theorem HR.notin (r : HR P w K ι G H) {a : Addr} (h : H a = none) : a ∉ ι := fun hm => by
  obtain ⟨o, e⟩ := r.live hm
  rw [h] at e; cases e
theorem CellOk.kind {a : Addr} {c : Cell} (h : CellOk P w K ι H a c) : (∃ xs, H a = some (.lst xs)) ∨ (∃ ks, H a = some (.dK ks)) ∨ ∃ φ, H a = some (.ext φ) := by
  cases c with
  | lst ds => obtain ⟨xs, h, _⟩ := h; exact .inl ⟨_, h⟩
  | dct t kvs =>
    cases t with
    | false => obtain ⟨ks, h, _⟩ := h; exact .inr (.inl ⟨_, h⟩)
    | true => obtain ⟨ks, h, _⟩ := h; exact .inr (.inr ⟨_, h⟩)
  | set ds => exact False.elim h
theorem HR.not_tup (r : HR P w K ι G H) {a : Addr} {xs : List V} (h : H a = some (.tup xs)) : a ∉ ι := fun hm => by
  obtain ⟨n, e⟩ := List.mem_iff_getElem?.mp hm
  obtain ⟨c, _, hc⟩ := r.at e
  rcases hc.kind with ⟨_, q⟩ | ⟨_, q⟩ | ⟨_, q⟩ <;> (rw [h] at q; cases q)
theorem HR.not_frz (r : HR P w K ι G H) {a : Addr} {o : Obj} {u : HO} (h : H a = some (.frz o u)) : a ∉ ι := fun hm => by
  obtain ⟨n, e⟩ := List.mem_iff_getElem?.mp hm
  obtain ⟨c, _, hc⟩ := r.at e
  rcases hc.kind with ⟨_, q⟩ | ⟨_, q⟩ | ⟨_, q⟩ <;> (rw [h] at q; cases q)
theorem pre_get {n : Nat} {a : Addr} (p : ι <+: ι') (e : ι[n]? = some a) : ι'[n]? = some a := by
  obtain ⟨t, rfl⟩ := p
  have h1 : n < ι.length := (List.getElem?_eq_some_iff.mp e).1
  rw [List.getElem?_append_left h1]; exact e
theorem Fr2.trans (r : HR P w K ι' G' H') (a : Fr2 ι H ι' H') (b : Fr2 ι' H' ι2 H2) : Fr2 ι H ι2 H2 where
  pre := a.pre.trans b.pre
  fresh := fun n x hn e => by
    cases q : H x with
    | none => rfl
    | some o =>
      by_cases hn' : n < ι'.length
      · have e' : ι'[n]? = some x := by
          obtain ⟨t, rfl⟩ := b.pre
          rw [List.getElem?_append_left hn'] at e; exact e
        have := a.fresh n x hn e'
        rw [q] at this; exact this
      · have h1 := b.fresh n x (Nat.le_of_not_lt hn') e
        by_cases hx : x ∈ ι
        · obtain ⟨o', q'⟩ := r.live (a.pre.subset hx)
          rw [h1] at q'; cases q'
        · rw [a.ext x o q hx] at h1; cases h1
  ext := fun x o e hx => by
    refine b.ext x o (a.ext x o e hx) fun hm => ?_
    obtain ⟨n, en⟩ := List.mem_iff_getElem?.mp hm
    by_cases hn : n < ι.length
    · obtain ⟨t, rfl⟩ := a.pre
      rw [List.getElem?_append_left hn] at en
      exact hx (List.mem_iff_getElem?.mpr ⟨n, en⟩)
    · have := a.fresh n x (Nat.le_of_not_lt hn) en
      rw [e] at this; cases this
mutual
theorem RV.up {v : V} {d : D} (a : Addr) : RV K ι H v d → RV K (ι ++ [a]) H v d
  | .non => .non
  | .bl b => .bl b
  | .int b => .int b
  | .str b => .str b
  | .tup h hs => .tup h (RVs.up a hs)
  | .ref e => .ref (pre_get (List.prefix_append _ _) e)
  | .frl h hs => .frl h (RVs.up a hs)
theorem RVs.up {vs : List V} {ds : List D} (a : Addr) : RVs K ι H vs ds → RVs K (ι ++ [a]) H vs ds
  | .nil => .nil
  | .cons h hs => .cons (RV.up a h) (RVs.up a hs)
end
theorem CellOk.up {x : Addr} {c : Cell} (a : Addr) (h : CellOk P w K ι H x c) : CellOk P w K (ι ++ [a]) H x c := by
  cases c with
  | lst ds => obtain ⟨xs, h1, h2⟩ := h; exact ⟨xs, h1, h2.up a⟩
  | dct t kvs =>
    cases t with
    | false => obtain ⟨ks, h1, h2⟩ := h; exact ⟨ks, h1, L2.Paired.mapP h2 fun _ _ q => ⟨q.1.up a, q.2.up a⟩⟩
    | true =>
      obtain ⟨ks, h1, h3, h2⟩ := h
      exact ⟨ks, h1, h3, L2.Paired.mapP h2 fun _ _ q => ⟨q.1, q.2.1, q.2.2.1, q.2.2.2.1.up a, let ⟨y, y1, y2⟩ := q.2.2.2.2; ⟨y, y1, y2.up a⟩⟩⟩
  | set ds => exact False.elim h
theorem SqT.go (r : HR P w K ι G H) (f : Fr2 ι H ι' H') {a : Addr} {xs : List V} (h : SqT K H a xs) : SqT K H' a xs := by
  rcases h with (h | ⟨o, h⟩) | h
  · exact .inl (.inl (f.ext a _ h (r.not_tup h)))
  · exact .inl (.inr ⟨o, f.ext a _ h (r.not_frz h)⟩)
  · exact .inr h
theorem Frl.go (r : HR P w K ι G H) (f : Fr2 ι H ι' H') {a : Addr} {xs : List V} (h : Frl K H a xs) : Frl K H' a xs := by
  rcases h with ⟨o, h⟩ | h
  · exact .inl ⟨o, f.ext a _ h (r.not_frz h)⟩
  · exact .inr h
mutual
theorem RV.go (r : HR P w K ι G H) (f : Fr2 ι H ι' H') : ∀ {v : V} {d : D}, RV K ι H v d → RV K ι' H' v d
  | _, _, .non => .non
  | _, _, .bl b => .bl b
  | _, _, .int b => .int b
  | _, _, .str b => .str b
  | _, _, .tup h hs => .tup (SqT.go r f h) (RVs.go r f hs)
  | _, _, .ref e => .ref (pre_get f.pre e)
  | _, _, .frl h hs => .frl (Frl.go r f h) (RVs.go r f hs)
theorem RVs.go (r : HR P w K ι G H) (f : Fr2 ι H ι' H') : ∀ {vs : List V} {ds : List D}, RVs K ι H vs ds → RVs K ι' H' vs ds
  | _, _, .nil => .nil
  | _, _, .cons h hs => .cons (RV.go r f h) (RVs.go r f hs)
end
theorem ER.go (r : HR P w K ι G H) (f : Fr2 ι H ι' H') {σ : L2.St} {ρ : Env} (e : ER K ι H σ ρ) : ER K ι' H' σ ρ :=
  ⟨e.1, fun i d h => let ⟨v, h1, h2⟩ := e.2 i d h; ⟨v, h1, h2.go r f⟩⟩
theorem RVs.length {vs : List V} {ds : List D} (h : RVs K ι H vs ds) : vs.length = ds.length := by
  induction ds generalizing vs with
  | nil => cases h; rfl
  | cons d ds ih => cases h with | cons h hs => simp [ih hs]
theorem RVs.get {vs : List V} {ds : List D} (h : RVs K ι H vs ds) : ∀ {i : Nat} {d : D}, ds[i]? = some d → ∃ v, vs[i]? = some v ∧ RV K ι H v d := by
  induction ds generalizing vs with
  | nil => intro i d e; simp at e
  | cons d ds ih =>
    cases h with
    | cons h hs =>
      intro i e he
      cases i with
      | zero => simp at he; subst he; exact ⟨_, rfl, h⟩
      | succ i => simp at he; simpa using ih hs he
theorem RVs.getV {vs : List V} {ds : List D} (h : RVs K ι H vs ds) {i : Nat} {v : V} (e : vs[i]? = some v) : ∃ d, ds[i]? = some d ∧ RV K ι H v d := by
  have h1 : i < vs.length := (List.getElem?_eq_some_iff.mp e).1
  have h2 : i < ds.length := by rw [← h.length]; exact h1
  obtain ⟨v', e', r⟩ := h.get (List.getElem?_eq_getElem h2)
  rw [e] at e'; cases e'
  exact ⟨_, List.getElem?_eq_getElem h2, r⟩
theorem RVs.append {vs us : List V} {ds es : List D} (h : RVs K ι H vs ds) (h' : RVs K ι H us es) : RVs K ι H (vs ++ us) (ds ++ es) := by
  induction ds generalizing vs with
  | nil => cases h; exact h'
  | cons d ds ih => cases h with | cons h hs => exact .cons h (ih hs)
theorem RVs.take {vs : List V} {ds : List D} (n : Nat) (h : RVs K ι H vs ds) : RVs K ι H (vs.take n) (ds.take n) := by
  induction ds generalizing vs n with
  | nil => cases h; simpa using RVs.nil
  | cons d ds ih =>
    cases h with
    | cons h hs =>
      cases n with
      | zero => exact .nil
      | succ n => exact .cons h (ih n hs)
theorem RVs.drop {vs : List V} {ds : List D} (n : Nat) (h : RVs K ι H vs ds) : RVs K ι H (vs.drop n) (ds.drop n) := by
  induction ds generalizing vs n with
  | nil => cases h; simpa using RVs.nil
  | cons d ds ih =>
    cases h with
    | cons h hs =>
      cases n with
      | zero => exact .cons h hs
      | succ n => exact ih n hs
theorem RVs.set {vs : List V} {ds : List D} {v : V} {d : D} (hv : RV K ι H v d) (n : Nat) (h : RVs K ι H vs ds) : RVs K ι H (vs.set n v) (ds.set n d) := by
  induction ds generalizing vs n with
  | nil => cases h; exact .nil
  | cons d ds ih =>
    cases h with
    | cons h hs =>
      cases n with
      | zero => exact .cons hv hs
      | succ n => exact .cons h (ih n hs)
theorem RVs.erase {vs : List V} {ds : List D} (n : Nat) (h : RVs K ι H vs ds) : RVs K ι H (vs.eraseIdx n) (ds.eraseIdx n) := by
  induction ds generalizing vs n with
  | nil => cases h; exact .nil
  | cons d ds ih =>
    cases h with
    | cons h hs =>
      cases n with
      | zero => exact hs
      | succ n => exact .cons h (ih n hs)
theorem RVs.rep {vs : List V} {ds : List D} (h : RVs K ι H vs ds) : ∀ n : Nat, RVs K ι H (List.replicate n vs).flatten (List.replicate n ds).flatten
  | 0 => .nil
  | n + 1 => by simp only [List.replicate_succ, List.flatten_cons]; exact h.append (RVs.rep h n)
theorem RVs.one {vs : List V} {d : D} (h : RVs K ι H vs [d]) : ∃ v, vs = [v] ∧ RV K ι H v d := by
  cases h with | cons h hs => cases hs; exact ⟨_, rfl, h⟩
/-- a new list or dict is laid: the cells stand -/
theorem Fr2.laid {a : Addr} {o : HO} (h : H a = none) : Fr2 ι H ι (upd H a o) where
  pre := List.prefix_refl _
  fresh := fun n x hn e => by rw [List.getElem?_eq_none hn] at e; cases e
  ext := fun x u e hx => by rw [upd_ne (ne_of_none e h)]; exact e
theorem RV.laid {a : Addr} {o : HO} (r : HR P w K ι G H) (h : H a = none) {v : V} {d : D} (q : RV K ι H v d) : RV K ι (upd H a o) v d := q.go r (Fr2.laid h)
/-- one cell's cell stays, where all but some addresses stay -/
theorem CellOk.go (r : HR P w K ι G H) (f : Fr2 ι H ι' H') {a : Addr} {c : Cell} (h : CellOk P w K ι H a c) (e : ∀ o, H a = some o → H' a = some o) : CellOk P w K ι' H' a c := by
  cases c with
  | lst ds => obtain ⟨xs, h1, h2⟩ := h; exact ⟨xs, e _ h1, h2.go r f⟩
  | dct t kvs =>
    cases t with
    | false => obtain ⟨ks, h1, h2⟩ := h; exact ⟨ks, e _ h1, L2.Paired.mapP h2 fun _ _ q => ⟨q.1.go r f, q.2.go r f⟩⟩
    | true =>
      obtain ⟨ks, h1, h3, h2⟩ := h
      exact ⟨ks, e _ h1, h3, L2.Paired.mapP h2 fun _ _ q => ⟨q.1, q.2.1, q.2.2.1, q.2.2.2.1.go r f, let ⟨y, y1, y2⟩ := q.2.2.2.2; ⟨y, y1, y2.go r f⟩⟩⟩
  | set ds => exact False.elim h
theorem HR.laid {a : Addr} {o : HO} (r : HR P w K ι G H) (h : H a = none) : HR P w K ι G (upd H a o) :=
  ⟨r.len, r.nd, fun n c x e1 e2 => (r.cell n c x e1 e2).go r (Fr2.laid h) fun u e => by rw [upd_ne (ne_of_none e h)]; exact e⟩
/-- a new cell -/
theorem HR.push {a : Addr} {c : Cell} (r : HR P w K ι G H) (ha : a ∉ ι) (hc : CellOk P w K (ι ++ [a]) H a c) : HR P w K (ι ++ [a]) (G ++ [c]) H := by
  refine ⟨by simp [r.len], ?_, fun n d x e1 e2 => ?_⟩
  · rw [List.nodup_append]
    exact ⟨r.nd, by simp, fun x hx y hy => by simp at hy; subst hy; exact fun e => ha (e ▸ hx)⟩
  · by_cases hn : n < G.length
    · have hn' : n < ι.length := by rw [r.len]; exact hn
      rw [List.getElem?_append_left hn] at e1
      rw [List.getElem?_append_left hn'] at e2
      have h := r.cell n d x e1 e2
      exact h.up a
    · have hn' : ¬ n < ι.length := by rw [r.len]; exact hn
      have hl := r.len
      rw [List.getElem?_append_right (Nat.le_of_not_lt hn)] at e1
      rw [List.getElem?_append_right (Nat.le_of_not_lt hn')] at e2
      have h0 : n - G.length = 0 := by
        cases q : n - G.length with
        | zero => rfl
        | succ k => rw [q] at e1; simp at e1
      rw [h0] at e1
      rw [hl, h0] at e2
      simp at e1 e2
      subst e1 e2
      exact hc
end
end LK

set_option Elab.async false
set_option linter.all false
set_option autoImplicit false
set_option maxRecDepth 100000
set_option maxHeartbeats 4000000
/-! LkOps: the operators, by values. -/
namespace LK
open PySem PySem.Spec PyProof.Rows L2

section
variable (P : Program) (w : World) (K : PySem.W.Frag)
/-- how a result lies: H0 the heap ahead -/
def RR (H0 : Hp) (ι : List Addr) (H : Hp) (v : V) : R → Prop
  | .val d => RV K ι H v d
  | .newL ds => ∃ a xs, v = .ref a ∧ H a = some (.lst xs) ∧ RVs K ι H xs ds ∧ H0 a = none ∧ a ∉ ι
  | .newD t kvs => ∃ a, v = .ref a ∧ DctOk P w K ι H a t kvs ∧ H0 a = none ∧ a ∉ ι
  | .newS _ => False
/-- what is wanted behind a result: QQ of the result, the cells, the heap, the value; XC: how an exception lies; W: what is wanted of it -/
def Post {α β : Type} (Rel : Hp → List Addr → Hp → β → α → Prop) (XC : Str → D → List Addr → Hp → Value → Option Addr → Prop) (W : Value → Option Addr → Hp → Prop) (ι : List Addr) (H : Hp) (QQ : α → List Addr → Hpp → Hp → β → Prop) : Res α → Prop
  | .ok a G' => ∀ ι' H' v, Fr2 ι H ι' H' → HR P w K ι' G' H' → Rel H ι' H' v a → QQ a ι' G' H' v
  | .ex c d G' => ∀ ι' H' cls dd, Fr2 ι H ι' H' → HR P w K ι' G' H' → XC c d ι' H' cls dd → W cls dd H'
  | .bad => False
end

section
variable {P : Program} {w : World} {K : PySem.W.Frag} {ι ι' ι2 : List Addr} {G G' : Hpp} {H H' H2 H0 : Hp}
theorem Fr2.back (r : HR P w K ι' G' H') (f : Fr2 ι H ι' H') {a : Addr} (h : H' a = none) : H a = none := by
  cases q : H a with
  | none => rfl
  | some o =>
    by_cases hx : a ∈ ι
    · obtain ⟨o', q'⟩ := r.live (f.pre.subset hx)
      rw [h] at q'; cases q'
    · rw [f.ext a o q hx] at h; cases h
theorem RR.back (r : HR P w K ι' G' H') (f : Fr2 ι H ι' H') {v : V} {x : R} (h : RR P w K H' ι2 H2 v x) : RR P w K H ι2 H2 v x := by
  cases x with
  | val d => exact h
  | newL ds => obtain ⟨a, xs, h1, h2, h3, h4, h5⟩ := h; exact ⟨a, xs, h1, h2, h3, f.back r h4, h5⟩
  | newD t kvs => obtain ⟨a, h1, h2, h4, h5⟩ := h; exact ⟨a, h1, h2, f.back r h4, h5⟩
  | newS ds => exact h
theorem DctOk.go (r : HR P w K ι G H) (f : Fr2 ι H ι' H') {a : Addr} {t : Bool} {kvs : List (D × D)} (h : DctOk P w K ι H a t kvs) (e : ∀ o, H a = some o → H' a = some o) : DctOk P w K ι' H' a t kvs :=
  CellOk.go (c := .dct t kvs) r f h e
theorem Fr2.notin (f : Fr2 ι H ι' H') {a : Addr} {o : HO} (h : H a = some o) (n : a ∉ ι) : a ∉ ι' := fun hm => by
  obtain ⟨m, em⟩ := List.mem_iff_getElem?.mp hm
  by_cases hn : m < ι.length
  · obtain ⟨t, rfl⟩ := f.pre
    rw [List.getElem?_append_left hn] at em
    exact n (List.mem_iff_getElem?.mpr ⟨m, em⟩)
  · have := f.fresh m a (Nat.le_of_not_lt hn) em
    rw [h] at this; cases this
/-- a result waits while other code runs -/
theorem RR.go (r : HR P w K ι G H) (f : Fr2 ι H ι' H') {v : V} {x : R} (h : RR P w K H0 ι H v x) : RR P w K H0 ι' H' v x := by
  cases x with
  | val d => exact RV.go r f h
  | newL ds => obtain ⟨a, xs, h1, h2, h3, h4, h5⟩ := h; exact ⟨a, xs, h1, f.ext _ _ h2 h5, h3.go r f, h4, f.notin h2 h5⟩
  | newD t kvs =>
    obtain ⟨a, h1, h2, h4, h5⟩ := h
    obtain ⟨o, e⟩ := CellOk.there (c := .dct t kvs) h2
    exact ⟨a, h1, h2.go r f fun o' e' => f.ext _ _ e' h5, h4, f.notin e h5⟩
  | newS ds => exact h
variable {α β γ δ : Type} {XC : Str → D → List Addr → Hp → Value → Option Addr → Prop} {W : Value → Option Addr → Hp → Prop}
  {Rel : Hp → List Addr → Hp → β → α → Prop} {Rel2 : Hp → List Addr → Hp → δ → γ → Prop}
theorem Post.bind {QQ : γ → List Addr → Hpp → Hp → δ → Prop} {ra : Res α} {k : α → Hpp → Res γ} (h : Post P w K Rel2 XC W ι H QQ (ra.bind k)) :
    Post P w K Rel XC W ι H (fun a ι1 G1 H1 v => Fr2 ι H ι1 H1 ∧ HR P w K ι1 G1 H1 ∧ Rel H ι1 H1 v a ∧ Post P w K Rel2 XC W ι H QQ (k a G1)) ra := by
  cases ra with
  | ok a G1 => exact fun ι1 H1 v f r q => ⟨f, r, q, h⟩
  | ex c d G1 => exact h
  | bad => exact h
theorem Post.shift {QQ : α → List Addr → Hpp → Hp → β → Prop} {res : Res α} (r : HR P w K ι' G' H') (f : Fr2 ι H ι' H') (hb : ∀ ι2 H2 v a, Rel H' ι2 H2 v a → Rel H ι2 H2 v a)
    (h : Post P w K Rel XC W ι H QQ res) : Post P w K Rel XC W ι' H' QQ res := by
  cases res with
  | ok a G1 => exact fun ι1 H1 v f' r' q => h ι1 H1 v (f.trans r f') r' (hb _ _ _ _ q)
  | ex c d G1 => exact fun ι1 H1 cls dd f' r' q => h ι1 H1 cls dd (f.trans r f') r' q
  | bad => exact h
theorem Post.imp {QQ QQ' : α → List Addr → Hpp → Hp → β → Prop} {res : Res α} (h : Post P w K Rel XC W ι H QQ res) (hq : ∀ a ι1 G1 H1 v, QQ a ι1 G1 H1 v → QQ' a ι1 G1 H1 v) : Post P w K Rel XC W ι H QQ' res := by
  cases res with
  | ok a G1 => exact fun ι1 H1 v f' r' q => hq _ _ _ _ _ (h ι1 H1 v f' r' q)
  | ex c d G1 => exact h
  | bad => exact h
end

section
variable {X : Cx} {pins : List (Addr × Obj)} {σ : L2.St} {s : Shared} {ι : List Addr} {G : Hpp} {H H0 H1 : Hp} {x y : V} {v u : Value} {r q : R}
  {XC : Str → D → List Addr → Hp → Value → Option Addr → Prop} {W : Value → Option Addr → Hp → Prop} {QQ : R → List Addr → Hpp → Hp → V → Prop}
abbrev PRes (X : Cx) (XC : Str → D → List Addr → Hp → Value → Option Addr → Prop) (W : Value → Option Addr → Hp → Prop) (ι : List Addr) (H : Hp) (QQ : R → List Addr → Hpp → Hp → V → Prop) (res : Res R) : Prop :=
  Post X.prog X.w X.K (RR X.prog X.w X.K) XC W ι H QQ res
/-- the wish as HandS has it -/
abbrev QV (QQ : R → List Addr → Hpp → Hp → V → Prop) : VK := fun v H' => ∃ r ι' G', QQ r ι' G' H' v
theorem ok_val {d : D} {v : V} (hr : HR X.prog X.w X.K ι G H) (h : PRes X XC W ι H QQ (okV d G)) (hv : RV X.K ι H v d) : QV QQ v H := ⟨_, _, _, h ι H v .refl hr hv⟩
/-- a new tuple -/
theorem ok_tup {ds : List D} {xs : List V} (hr : HR X.prog X.w X.K ι G H) (h : PRes X XC W ι H QQ (okV (.tup ds) G)) (hv : RVs X.K ι H xs ds) {p : Addr} (hp : H p = none) : QV QQ (.ref p) (upd H p (.tup xs)) :=
  ⟨_, _, _, h ι (upd H p (.tup xs)) _ (Fr2.laid hp) (hr.laid hp) (.tup (SqT.of upd_same) (hv.go hr (Fr2.laid hp)))⟩
/-- a new list -/
theorem ok_lst {ds : List D} {xs : List V} (hr : HR X.prog X.w X.K ι G H) (h : PRes X XC W ι H QQ (.ok (.newL ds) G)) (hv : RVs X.K ι H xs ds) {p : Addr} (hp : H p = none) : QV QQ (.ref p) (upd H p (.lst xs)) :=
  ⟨_, _, _, h ι (upd H p (.lst xs)) _ (Fr2.laid hp) (hr.laid hp) ⟨p, xs, rfl, upd_same, hv.go hr (Fr2.laid hp), hp, hr.notin hp⟩⟩
theorem lim_line : LIM ≤ sizeLine := by rw [sizeLine_eq]; decide
theorem rv_int {i : Int} (h : RV X.K ι H x (.int i)) : x = .int i := by cases h; rfl
theorem rv_bl {i : Bool} (h : RV X.K ι H x (.bl i)) : x = .bl i := by cases h; rfl
theorem rv_str {i : Str} (h : RV X.K ι H x (.str i)) : x = .str i := by cases h; rfl
theorem rv_non (h : RV X.K ι H x .non) : x = .non := by cases h; rfl
theorem rv_tup {ds : List D} (h : RV X.K ι H x (.tup ds)) : ∃ a xs, x = .ref a ∧ SqT X.K H a xs ∧ RVs X.K ι H xs ds := by cases h with | tup h1 h2 => exact ⟨_, _, rfl, h1, h2⟩
/-- a list that can be written -/
theorem rr_lstM {ds : List D} (hr : HR X.prog X.w X.K ι G H) (h : RR X.prog X.w X.K H0 ι H x r) (e : lstM r G = some ds) : ∃ a xs, x = .ref a ∧ H a = some (.lst xs) ∧ RVs X.K ι H xs ds := by
  cases r with
  | val d =>
    cases d with
    | ref n =>
      cases h with
      | ref hn =>
        cases hg : G[n]? with
        | none => simp [lstM, hg] at e
        | some c =>
          cases c with
          | lst es =>
            simp [lstM, hg] at e; subst e
            obtain ⟨xs, h1, h2⟩ := hr.cell n _ _ hg hn
            exact ⟨_, xs, rfl, h1, h2⟩
          | dct t kvs => simp [lstM, hg] at e
          | set es => simp [lstM, hg] at e
    | _ => simp [lstM] at e
  | newL es => simp [lstM] at e; subst e; obtain ⟨a, xs, h1, h2, h3, _⟩ := h; exact ⟨a, xs, h1, h2, h3⟩
  | newD t kvs => simp [lstM] at e
  | newS es => simp [lstM] at e
theorem rr_lstOf {ds : List D} (hr : HR X.prog X.w X.K ι G H) (h : RR X.prog X.w X.K H0 ι H x r) (e : lstOf r G = some ds) : ∃ a xs, x = .ref a ∧ SqL X.K H a xs ∧ RVs X.K ι H xs ds := by
  have gen : lstM r G = some ds → ∃ a xs, x = .ref a ∧ SqL X.K H a xs ∧ RVs X.K ι H xs ds := fun e' => by
    obtain ⟨a, xs, h1, h2, h3⟩ := rr_lstM hr h e'
    exact ⟨a, xs, h1, SqL.of h2, h3⟩
  cases r with
  | val d =>
    cases d with
    | frl es =>
      have e' : es = ds := by simpa [lstOf] using e
      subst e'
      cases h with
      | frl h1 h2 => exact ⟨_, _, rfl, h1.sql, h2⟩
    | _ => exact gen e
  | newL es => exact gen e
  | newD t kvs => exact gen e
  | newS es => exact gen e
theorem rr_seqOf {ds : List D} (hr : HR X.prog X.w X.K ι G H) (h : RR X.prog X.w X.K H0 ι H x r) (e : seqOf r G = some ds) : ∃ a xs, x = .ref a ∧ (SqL X.K H a xs ∨ SqT X.K H a xs) ∧ RVs X.K ι H xs ds := by
  have gen : lstOf r G = some ds → ∃ a xs, x = .ref a ∧ (SqL X.K H a xs ∨ SqT X.K H a xs) ∧ RVs X.K ι H xs ds := fun e' => by
    obtain ⟨a, xs, h1, h2, h3⟩ := rr_lstOf hr h e'
    exact ⟨a, xs, h1, .inl h2, h3⟩
  cases r with
  | val d =>
    cases d with
    | tup es =>
      have e' : es = ds := by simpa [seqOf] using e
      subst e'
      obtain ⟨a, xs, h1, h2, h3⟩ := rv_tup h
      exact ⟨a, xs, h1, .inr h2, h3⟩
    | _ => exact gen e
  | newL es => exact gen e
  | newD t kvs => exact gen e
  | newS es => exact gen e

/-! ### the operators of numbers -/
theorem cmul_of {i j : Int} (h : mulOk i j = true) : CMul i j := by
  simp only [mulOk, Bool.or_eq_true, Bool.and_eq_true, decide_eq_true_eq] at h
  exact h
theorem cpow_of {i j : Int} (h : 0 ≤ j ∧ j ≤ 1000 ∧ i.natAbs < 2 ^ 64) : CPow i j := ⟨h.1, by omega, h.2.2⟩
def Bop.op : Bop → Operator
  | .add => .Add | .sub => .Sub | .mul => .Mult | .fdiv => .FloorDiv | .mod => .Mod | .pow => .Pow | .shl => .LShift | .shr => .RShift | .band => .BitAnd | .bor => .BitOr
theorem binI_ok {op : Bop} {i j : Int} (I : Inv X pins σ H s) (hr : HR X.prog X.w X.K ι G H) (rx : L2.RelV (.int i) v) (ry : L2.RelV (.int j) u) (h : PRes X XC W ι H QQ (binI op i j G)) :
    wpAny (model X.prog X.w) X.A (binaryOp op.op v u) (EP X pins σ (QV QQ)) X.xe s := by
  cases op with
  | add => exact op_add pins s σ H _ _ v u _ I rx ry ⟨i, j, rfl, rfl, ok_val hr h (.int _)⟩
  | sub => exact op_sub pins s σ H _ _ v u _ I rx ry ⟨i, j, rfl, rfl, ok_val hr h (.int _)⟩
  | mul =>
    unfold binI at h
    dsimp only at h
    split at h
    · rename_i hm
      exact op_mul pins s σ H _ _ v u _ I rx ry ⟨i, j, rfl, rfl, cmul_of hm, ok_val hr h (.int _)⟩
    · exact h.elim
  | fdiv =>
    unfold binI at h
    dsimp only at h
    split at h
    · rename_i hm
      exact op_fdivN pins s σ H _ _ v u _ I rx ry ⟨i, j, rfl, rfl, hm, ok_val hr h (.int _)⟩
    · exact h.elim
  | mod =>
    unfold binI at h
    dsimp only at h
    split at h
    · rename_i hm
      exact op_modN pins s σ H _ _ v u _ I rx ry ⟨i, j, rfl, rfl, hm, ok_val hr h (.int _)⟩
    · exact h.elim
  | pow =>
    unfold binI at h
    dsimp only at h
    split at h
    · rename_i hm
      exact op_pow pins s σ H _ _ v u _ I rx ry ⟨i, j, rfl, rfl, cpow_of hm, ok_val hr h (.int _)⟩
    · exact h.elim
  | shl =>
    unfold binI at h
    dsimp only at h
    split at h
    · rename_i hm
      exact op_shl pins s σ H _ _ v u _ I rx ry ⟨i, j, rfl, rfl, cpow_of hm, ok_val hr h (.int _)⟩
    · exact h.elim
  | shr =>
    unfold binI at h
    dsimp only at h
    split at h
    · rename_i hm
      exact op_shr pins s σ H _ _ v u _ I rx ry ⟨i, j, rfl, rfl, hm, ok_val hr h (.int _)⟩
    · exact h.elim
  | band => exact op_and pins s σ H _ _ v u _ I rx ry ⟨i, j, rfl, rfl, ok_val hr h (.int _)⟩
  | bor => exact op_or pins s σ H _ _ v u _ I rx ry ⟨i, j, rfl, rfl, ok_val hr h (.int _)⟩
theorem ibinI_ok {op : Bop} {i j : Int} (I : Inv X pins σ H s) (hr : HR X.prog X.w X.K ι G H) (ho : op = .add ∨ op = .sub ∨ op = .mul) (rx : L2.RelV (.int i) v) (ry : L2.RelV (.int j) u) (h : PRes X XC W ι H QQ (binI op i j G)) :
    wpAny (model X.prog X.w) X.A (inplaceOp op.op v u) (EP X pins σ (QV QQ)) X.xe s := by
  rcases ho with rfl | rfl | rfl
  · exact iop_add pins s σ H _ _ v u _ I rx ry ⟨i, j, rfl, rfl, ok_val hr h (.int _)⟩
  · exact iop_sub pins s σ H _ _ v u _ I rx ry ⟨i, j, rfl, rfl, ok_val hr h (.int _)⟩
  · unfold binI at h
    dsimp only at h
    split at h
    · rename_i hm
      exact iop_mul pins s σ H _ _ v u _ I rx ry ⟨i, j, rfl, rfl, cmul_of hm, ok_val hr h (.int _)⟩
    · exact h.elim
/-- () + t -/
theorem cat_tup0 {t b : Addr} {ws : List Value} {P : Program} {w : World} {A : Around} {E : Value → Shared → Prop} {Q : Value → Shared → Prop} (ht : IsTup s.heap t (#[] : Array Value)) (hb : IsTup s.heap b ws.toArray) (h1 : Q (.ref b) s) :
    wpAny (model P w) A (binaryOp .Add (.ref t) (.ref b)) Q E s := by
  obtain ⟨⟨cls, dd, data, sl⟩, ho, hc, n, hd⟩ := id ht
  obtain ⟨⟨cls2, dd2, data2, sl2⟩, ho2, hc2, n2, hd2⟩ := id hb
  simp only at hc hd hc2 hd2
  subst hc hd hc2 hd2
  exact concat_meets ⟨_, ho, rfl⟩ ⟨_, ho2, rfl⟩ noFill_tuple_add seq_tuple_add PySem.F.slot_tuple_add PySem.F.entry_tuple_add (PySem.F.args_tuple_add_2 _ _)
    (tuple_addW0 t b #[] ws.toArray n n2 dd dd2 sl sl2 rfl) ⟨ho, ho2, h1⟩
theorem addT_ok {ds es : List D} (I : Inv X pins σ H s) (hr : HR X.prog X.w X.K ι G H) (rx : L2.RelV x v) (ry : L2.RelV y u) (qx : RV X.K ι H x (.tup ds)) (qy : RV X.K ι H y (.tup es)) (hl : ds.length + es.length ≤ LIM)
    (h : PRes X XC W ι H QQ (okV (.tup (ds ++ es)) G)) : wpAny (model X.prog X.w) X.A (binaryOp .Add v u) (EP X pins σ (QV QQ)) X.xe s := by
  obtain ⟨a, xs, rfl, hx, hxs⟩ := rv_tup qx
  obtain ⟨b, ys, rfl, hy, hys⟩ := rv_tup qy
  by_cases e : xs = []
  · subst e
    cases hxs
    obtain ⟨its, r1, p1, _⟩ := I.tuple hx
    obtain ⟨its2, r2, p2, _⟩ := I.tuple hy
    cases r1
    cases rx
    cases ry
    exact cat_tup0 p1 p2 ⟨.ref b, H, I, rfl, ok_val hr h (.tup hy hys)⟩
  · refine op_catT pins s σ H _ _ v u _ I rx ry ⟨a, b, xs, ys, rfl, rfl, hx, hy, e, ?_, fun e2 => ?_, fun e2 p hp => ok_tup hr h (hxs.append hys) hp⟩
    · rw [hxs.length, hys.length]; exact Nat.le_trans hl lim_line
    · subst e2
      cases hys
      rw [List.append_nil] at h
      exact ok_val hr h (.tup hx hxs)
theorem addL_ok {ds es : List D} (I : Inv X pins σ H s) (hr : HR X.prog X.w X.K ι G H) (rx : L2.RelV x v) (ry : L2.RelV y u) (qx : RR X.prog X.w X.K H0 ι H x r) (qy : RR X.prog X.w X.K H1 ι H y q)
    (ex : lstM r G = some ds) (ey : lstM q G = some es) (hl : ds.length + es.length ≤ LIM)
    (h : PRes X XC W ι H QQ (.ok (.newL (ds ++ es)) G)) : wpAny (model X.prog X.w) X.A (binaryOp .Add v u) (EP X pins σ (QV QQ)) X.xe s := by
  obtain ⟨a, xs, rfl, hx, hxs⟩ := rr_lstM hr qx ex
  obtain ⟨b, ys, rfl, hy, hys⟩ := rr_lstM hr qy ey
  refine op_cat pins s σ H _ _ v u _ I rx ry ⟨a, b, xs, ys, rfl, rfl, hx, hy, ?_, fun p hp => ok_lst hr h (hxs.append hys) hp⟩
  rw [hxs.length, hys.length]; exact Nat.le_trans hl lim_line
theorem repL_ok {ds : List D} {k : Int} (I : Inv X pins σ H s) (hr : HR X.prog X.w X.K ι G H) (rx : L2.RelV x v) (ry : L2.RelV (.int k) u) (qx : RR X.prog X.w X.K H0 ι H x r)
    (ex : lstM r G = some ds) (hk : 0 ≤ k ∧ k ≤ 1000 ∧ ds.length ≤ 1000)
    (h : PRes X XC W ι H QQ (.ok (.newL (repL ds k)) G)) : wpAny (model X.prog X.w) X.A (binaryOp .Mult v u) (EP X pins σ (QV QQ)) X.xe s := by
  obtain ⟨a, xs, rfl, hx, hxs⟩ := rr_lstM hr qx ex
  have h2 := hxs.length
  refine op_rep pins s σ H _ _ v u _ I rx ry ⟨a, k, xs, rfl, rfl, hx, by omega, by omega, ?_, fun p hp => ok_lst hr h (hxs.rep _) hp⟩
  have h1 : xs.length * k.toNat ≤ 1000 * 1000 := Nat.mul_le_mul (by omega) (by omega)
  exact Nat.le_trans h1 lim_line
theorem repT_ok {ds : List D} {k : Int} (I : Inv X pins σ H s) (hr : HR X.prog X.w X.K ι G H) (rx : L2.RelV x v) (ry : L2.RelV (.int k) u) (qx : RV X.K ι H x (.tup ds))
    (hk : 2 ≤ k ∧ k ≤ 1000 ∧ ds.length ≤ 1000 ∧ ds ≠ [])
    (h : PRes X XC W ι H QQ (okV (.tup (repL ds k)) G)) : wpAny (model X.prog X.w) X.A (binaryOp .Mult v u) (EP X pins σ (QV QQ)) X.xe s := by
  obtain ⟨a, xs, rfl, hx, hxs⟩ := rv_tup qx
  have h2 := hxs.length
  refine op_repT pins s σ H _ _ v u _ I rx ry ⟨a, k, xs, rfl, rfl, hx, fun e => ?_, hk.1, hk.2.1, by omega, fun p hp => ok_tup hr h (hxs.rep _) hp⟩
  subst e
  cases hxs
  exact hk.2.2.2 rfl
theorem bin_ok {op : Bop} (I : Inv X pins σ H s) (hr : HR X.prog X.w X.K ι G H) (rx : L2.RelV x v) (ry : L2.RelV y u) (qx : RR X.prog X.w X.K H0 ι H x r) (qy : RR X.prog X.w X.K H1 ι H y q)
    (h : PRes X XC W ι H QQ (binR op r q G)) : wpAny (model X.prog X.w) X.A (binaryOp op.op v u) (EP X pins σ (QV QQ)) X.xe s := by
  unfold binR at h
  split at h
  · cases rv_int qx; cases rv_int qy
    exact binI_ok I hr rx ry h
  · split at h
    · split at h
      · rename_i hl
        exact addT_ok I hr rx ry qx qy hl h
      · exact h.elim
    · exact h.elim
  · split at h
    · split at h
      · rename_i hl
        cases rv_int qy
        exact repT_ok I hr rx ry qx hl h
      · exact h.elim
    · exact h.elim
  · split at h
    · split at h
      · rename_i hl
        cases rv_str qx; cases rv_str qy
        exact op_add_str pins s σ H _ _ v u _ I rx ry ⟨_, _, rfl, rfl, Nat.le_trans hl lim_line, ok_val hr h (.str _)⟩
      · exact h.elim
    · exact h.elim
  · split at h
    · rename_i e
      split at h
      · rename_i hl
        cases rv_int qy
        exact repL_ok I hr rx ry qx e hl h
      · exact h.elim
    · exact h.elim
  · split at h
    · rename_i e1 e2
      split at h
      · rename_i hl
        exact addL_ok I hr rx ry qx qy e1 e2 hl h
      · exact h.elim
    · exact h.elim
end
end LK

set_option Elab.async false
set_option linter.all false
set_option autoImplicit false
set_option maxRecDepth 100000
set_option maxHeartbeats 4000000
/-! LkCmp: comparisons, membership. -/
namespace LK
open PySem PySem.Spec PyProof.Rows L2

/-! ### data as the library has them -/
mutual
theorem toPy_plain : ∀ d : D, ∀ k, D.dok k d = true → (d.toPy).plain = true
  | .non, _, _ => rfl
  | .bl _, _, _ => rfl
  | .int _, _, _ => rfl
  | .str _, _, _ => rfl
  | .ref _, k, h => by cases k <;> simp [D.dok] at h
  | .frl _, k, h => by cases k <;> simp [D.dok] at h
  | .tup xs, 0, h => by simp [D.dok] at h
  | .tup xs, k + 1, h => by
    rw [D.toPy, PyData.plain]
    rw [D.dok] at h
    exact toPyL_plain xs k h
theorem toPyL_plain : ∀ xs : List D, ∀ k, xs.all (D.dok k) = true → PyData.plainAll (D.toPyL xs) = true
  | [], _, _ => rfl
  | x :: xs, k, h => by
    rw [List.all_cons, Bool.and_eq_true] at h
    rw [D.toPyL, PyData.plainAll, toPy_plain x k h.1, toPyL_plain xs k h.2]; rfl
end
mutual
theorem toPy_depth : ∀ d : D, ∀ k, D.dok k d = true → (d.toPy).depth ≤ k
  | .non, _, _ => Nat.zero_le _
  | .bl _, _, _ => Nat.zero_le _
  | .int _, _, _ => Nat.zero_le _
  | .str _, _, _ => Nat.zero_le _
  | .ref _, k, h => by cases k <;> simp [D.dok] at h
  | .frl _, k, h => by cases k <;> simp [D.dok] at h
  | .tup xs, 0, h => by simp [D.dok] at h
  | .tup xs, k + 1, h => by
    rw [D.toPy, PyData.depth]
    rw [D.dok] at h
    exact Nat.succ_le_succ (toPyL_depth xs k h)
theorem toPyL_depth : ∀ xs : List D, ∀ k, xs.all (D.dok k) = true → PyData.depthAll (D.toPyL xs) ≤ k
  | [], _, _ => Nat.zero_le _
  | x :: xs, k, h => by
    rw [List.all_cons, Bool.and_eq_true] at h
    rw [D.toPyL, PyData.depthAll]
    exact Nat.max_le.mpr ⟨toPy_depth x k h.1, toPyL_depth xs k h.2⟩
end
mutual
theorem toPy_eqv : ∀ d : D, ∀ k, D.dok k d = true → ∀ (e : D) j, D.dok j e = true → PyData.eqv d.toPy e.toPy = D.eqv d e
  | .non, _, _, e, j, h2 => by cases e <;> simp_all [D.toPy, PyData.eqv, D.eqv] <;> (cases j <;> simp [D.dok] at h2)
  | .bl b, _, _, e, j, h2 => by cases e <;> simp_all [D.toPy, PyData.eqv, D.eqv] <;> (cases j <;> simp [D.dok] at h2)
  | .int _, _, _, e, j, h2 => by cases e <;> simp_all [D.toPy, PyData.eqv, D.eqv] <;> (cases j <;> simp [D.dok] at h2)
  | .str _, _, _, e, j, h2 => by cases e <;> simp_all [D.toPy, PyData.eqv, D.eqv] <;> (cases j <;> simp [D.dok] at h2)
  | .ref _, k, h, _, _, _ => by cases k <;> simp [D.dok] at h
  | .frl _, k, h, _, _, _ => by cases k <;> simp [D.dok] at h
  | .tup xs, 0, h, _, _, _ => by simp [D.dok] at h
  | .tup xs, k + 1, h, e, j, h2 => by
    rw [D.dok] at h
    cases e with
    | tup ys =>
      cases j with
      | zero => simp [D.dok] at h2
      | succ j =>
        rw [D.dok] at h2
        rw [D.toPy, D.toPy, PyData.eqv, D.eqv]
        exact toPyL_eqv xs k h ys j h2
    | ref n => cases j <;> simp [D.dok] at h2
    | frl n => cases j <;> simp [D.dok] at h2
    | _ => simp [D.toPy, PyData.eqv, D.eqv]
theorem toPyL_eqv : ∀ xs : List D, ∀ k, xs.all (D.dok k) = true → ∀ (ys : List D) j, ys.all (D.dok j) = true → PyData.eqvAll (D.toPyL xs) (D.toPyL ys) = D.eqvL xs ys
  | [], _, _, ys, j, h2 => by cases ys <;> simp [D.toPyL, PyData.eqvAll, D.eqvL]
  | x :: xs, k, h, ys, j, h2 => by
    rw [List.all_cons, Bool.and_eq_true] at h
    cases ys with
    | nil => simp [D.toPyL, PyData.eqvAll, D.eqvL]
    | cons y ys =>
      rw [List.all_cons, Bool.and_eq_true] at h2
      rw [D.toPyL, D.toPyL, PyData.eqvAll, D.eqvL, toPy_eqv x k h.1 y j h2.1, toPyL_eqv xs k h.2 ys j h2.2]
end
section
variable {K : PySem.W.Frag} {ι : List Addr} {H : Hp}
mutual
theorem rv_dp : ∀ {v : V} (d : D) (k : Nat), D.dok k d = true → RV K ι H v d → Dp K H v d.toPy
  | _, .non, _, _, h => by cases h; exact .non
  | _, .bl _, _, _, h => by cases h; exact .bl _
  | _, .int _, _, _, h => by cases h; exact .int _
  | _, .str _, _, _, h => by cases h; exact .str _
  | _, .ref _, k, h, _ => by cases k <;> simp [D.dok] at h
  | _, .frl _, k, h, _ => by cases k <;> simp [D.dok] at h
  | _, .tup xs, 0, h, _ => by simp [D.dok] at h
  | _, .tup xs, k + 1, h, q => by
    rw [D.dok] at h
    rw [D.toPy]
    cases q with
    | tup h1 h2 => exact .tup h1 (rvs_dp xs k h h2)
theorem rvs_dp : ∀ {vs : List V} (ds : List D) (k : Nat), ds.all (D.dok k) = true → RVs K ι H vs ds → DpAll K H vs (D.toPyL ds)
  | _, [], _, _, h => by cases h; exact .nil
  | _, x :: xs, k, h, q => by
    rw [List.all_cons, Bool.and_eq_true] at h
    cases q with
    | cons h1 h2 => exact .cons (rv_dp x k h.1 h1) (rvs_dp xs k h.2 h2)
end
end
theorem toPyL_map : ∀ xs : List D, D.toPyL xs = xs.map D.toPy
  | [] => rfl
  | x :: xs => by rw [D.toPyL, toPyL_map xs]; rfl
theorem any_eqv {d : D} {k j : Nat} (hd : D.dok k d = true) : ∀ xs : List D, xs.all (D.dok j) = true → ((D.toPyL xs).any fun y => PyData.eqv y d.toPy) = xs.any fun z => D.eqv z d
  | [], _ => rfl
  | x :: xs, h => by
    rw [List.all_cons, Bool.and_eq_true] at h
    rw [D.toPyL, List.any_cons, List.any_cons, toPy_eqv x j h.1 d k hd, any_eqv hd xs h.2]

section
variable {X : Cx} {pins : List (Addr × Obj)} {σ : L2.St} {s : Shared} {ι : List Addr} {G : Hpp} {H H0 H1 : Hp} {x y : V} {v u : Value} {r q : R}
  {XC : Str → D → List Addr → Hp → Value → Option Addr → Prop} {W : Value → Option Addr → Hp → Prop} {QQ : R → List Addr → Hpp → Hp → V → Prop}
theorem eqR_dp {b : Bool} (hr : HR X.prog X.w X.K ι G H) (qx : RR X.prog X.w X.K H0 ι H x r) (qy : RR X.prog X.w X.K H1 ι H y q) (h : eqR r q G = some b) :
    ∃ da db : PyData, Dp X.K H x da ∧ Dp X.K H y db ∧ da.plain = true ∧ db.plain = true ∧ da.depth ≤ 61 ∧ PyData.eqv da db = b := by
  have view : ∀ {r : R} {x : V} {H0 : Hp} {ds : List D}, RR X.prog X.w X.K H0 ι H x r → viewOf r G = some (.ls ds) → ∃ a xs, x = .ref a ∧ SqL X.K H a xs ∧ RVs X.K ι H xs ds := by
    intro r x H0 ds qx e
    refine rr_lstOf (r := r) hr qx ?_
    cases r with
    | val d =>
      cases d <;> simp [viewOf, lstOf] at e ⊢ <;> first | exact e | (obtain ⟨z, h1, h2⟩ := e; cases h2; exact h1)
    | newL es => simp [viewOf, lstOf, lstM] at e ⊢; exact e
    | newD t kvs => simp [viewOf] at e
    | newS es => simp [viewOf] at e
  have viewS : ∀ {r : R} {x : V} {H0 : Hp} {d : D}, RR X.prog X.w X.K H0 ι H x r → viewOf r G = some (.sc d) → RV X.K ι H x d := by
    intro r x H0 d qx e
    cases r with
    | val d' =>
      cases d' <;> simp [viewOf] at e <;> (subst e; exact qx)
    | newL es => simp [viewOf] at e
    | newD t kvs => simp [viewOf] at e
    | newS es => simp [viewOf] at e
  unfold eqR at h
  split at h
  · cases rv_int qx; cases rv_int qy
    cases h
    exact ⟨_, _, .int _, .int _, rfl, rfl, Nat.zero_le _, by simp [PyData.eqv, Bool.beq_eq_decide_eq]⟩
  · cases rv_bl qx; cases rv_bl qy
    cases h
    exact ⟨_, _, .bl _, .bl _, rfl, rfl, Nat.zero_le _, by simp [PyData.eqv, Bool.beq_eq_decide_eq]⟩
  · cases rv_str qx; cases rv_str qy
    cases h
    exact ⟨_, _, .str _, .str _, rfl, rfl, Nat.zero_le _, by simp [PyData.eqv, Bool.beq_eq_decide_eq]⟩
  · split at h
    · rename_i a b' e1 e2
      split at h
      · rename_i hk
        rw [Bool.and_eq_true] at hk
        cases h
        exact ⟨_, _, rv_dp _ 60 hk.1 (viewS qx e1), rv_dp _ 60 hk.2 (viewS qy e2), toPy_plain _ _ hk.1, toPy_plain _ _ hk.2, Nat.le_trans (toPy_depth _ _ hk.1) (by decide), toPy_eqv _ _ hk.1 _ _ hk.2⟩
      · cases h
    · rename_i xs ys e1 e2
      split at h
      · rename_i hk
        rw [Bool.and_eq_true] at hk
        cases h
        obtain ⟨a, vs, rfl, h1, h2⟩ := view qx e1
        obtain ⟨b, us, rfl, h3, h4⟩ := view qy e2
        refine ⟨.list _, .list _, .lst h1 (rvs_dp _ 60 hk.1 h2), .lst h3 (rvs_dp _ 60 hk.2 h4), ?_, ?_, ?_, ?_⟩
        · rw [PyData.plain]; exact toPyL_plain _ _ hk.1
        · rw [PyData.plain]; exact toPyL_plain _ _ hk.2
        · rw [PyData.depth]; exact Nat.succ_le_succ (toPyL_depth _ _ hk.1)
        · rw [PyData.eqv]; exact toPyL_eqv _ _ hk.1 _ _ hk.2
      · cases h
    · rename_i a ys e1 e2
      split at h
      · rename_i hk
        rw [Bool.and_eq_true] at hk
        cases h
        obtain ⟨b, us, rfl, h3, h4⟩ := view qy e2
        refine ⟨_, .list _, rv_dp _ 60 hk.1 (viewS qx e1), .lst h3 (rvs_dp _ 60 hk.2 h4), toPy_plain _ _ hk.1, ?_, Nat.le_trans (toPy_depth _ _ hk.1) (by decide), ?_⟩
        · rw [PyData.plain]; exact toPyL_plain _ _ hk.2
        · have h5 := hk.1
          cases a <;> first | rfl | (simp [D.dok] at h5)
      · cases h
    · rename_i xs b' e1 e2
      split at h
      · rename_i hk
        rw [Bool.and_eq_true] at hk
        cases h
        obtain ⟨b, us, rfl, h3, h4⟩ := view qx e1
        refine ⟨.list _, _, .lst h3 (rvs_dp _ 60 hk.1 h4), rv_dp _ 60 hk.2 (viewS qy e2), ?_, toPy_plain _ _ hk.2, ?_, ?_⟩
        · rw [PyData.plain]; exact toPyL_plain _ _ hk.1
        · rw [PyData.depth]; exact Nat.succ_le_succ (toPyL_depth _ _ hk.1)
        · have h5 := hk.2
          cases b' <;> first | rfl | (simp [D.dok] at h5)
      · cases h
    · cases h
def Cop.op : Cop → CmpOp
  | .eq => .Eq | .ne => .NotEq | .lt => .Lt | .le => .LtE | .gt => .Gt | .ge => .GtE | .is => .Is | .isn => .IsNot | .isin => .In | .notin => .NotIn
theorem eq_ok {b : Bool} (hu : X.A.units + 150 < cLine) (I : Inv X pins σ H s) (hr : HR X.prog X.w X.K ι G H) (rx : L2.RelV x v) (ry : L2.RelV y u) (qx : RR X.prog X.w X.K H0 ι H x r) (qy : RR X.prog X.w X.K H1 ι H y q)
    (e : eqR r q G = some b) {Q : VK} (h : Q (.bl b) H) : wpAny (model X.prog X.w) X.A (compareOp .Eq v u) (EP X pins σ Q) X.xe s := by
  obtain ⟨da, db, d1, d2, p1, p2, hd, hv⟩ := eqR_dp hr qx qy e
  obtain ⟨as, r1⟩ := Dp.reads I _ _ _ d1 rx
  obtain ⟨bs, r2⟩ := Dp.reads I _ _ _ d2 ry
  exact SeqAt.eq_plain r1 r2 p1 p2 (by have := Nat.min_le_left da.depth db.depth; omega) ⟨.bl b, H, I, by rw [hv]; rfl, h⟩
theorem ne_ok {b : Bool} (hu : X.A.units + 150 < cLine) (I : Inv X pins σ H s) (hr : HR X.prog X.w X.K ι G H) (rx : L2.RelV x v) (ry : L2.RelV y u) (qx : RR X.prog X.w X.K H0 ι H x r) (qy : RR X.prog X.w X.K H1 ι H y q)
    (e : eqR r q G = some b) {Q : VK} (h : Q (.bl (!b)) H) : wpAny (model X.prog X.w) X.A (compareOp .NotEq v u) (EP X pins σ Q) X.xe s := by
  obtain ⟨da, db, d1, d2, p1, p2, hd, hv⟩ := eqR_dp hr qx qy e
  obtain ⟨as, r1⟩ := Dp.reads I _ _ _ d1 rx
  obtain ⟨bs, r2⟩ := Dp.reads I _ _ _ d2 ry
  exact SeqAt.ne_plain r1 r2 p1 p2 (by have := Nat.min_le_left da.depth db.depth; omega) ⟨.bl (!b), H, I, by rw [hv]; rfl, h⟩
/-! ### is -/
theorem rv_none {d : D} (h : RV X.K ι H x d) : decide (x = .non) = decide (d = .non) := by
  cases h <;> simp
theorem isR_val {b : Bool} (rx : L2.RelV x v) (ry : L2.RelV y u) (qx : RR X.prog X.w X.K H0 ι H x r) (qy : RR X.prog X.w X.K H1 ι H y q) (e : isR r q = some b) : plainIs v u = true ∧ (v == u) = b := by
  have val : ∀ {d : D} {c : Bool}, RV X.K ι H x d → u = Value.bool c → plainIs v u = true ∧ (v == u) = decide (d = .bl c) := by
    intro d c q hu
    subst hu
    cases q with
    | non => cases rx; exact ⟨rfl, by simp⟩
    | bl b' => cases rx; exact ⟨rfl, by rw [Bool.eq_iff_iff]; simp⟩
    | int i => obtain ⟨t, rfl⟩ := rx; exact ⟨rfl, by simp⟩
    | str i => obtain ⟨t, rfl⟩ := rx; exact ⟨rfl, by simp⟩
    | tup _ _ => cases rx; exact ⟨rfl, by simp⟩
    | ref _ => cases rx; exact ⟨rfl, by simp⟩
    | frl _ _ => cases rx; exact ⟨rfl, by simp⟩
  have non : ∀ {d : D}, RV X.K ι H x d → u = Value.none → plainIs v u = true ∧ (v == u) = decide (d = .non) := by
    intro d q hu
    subst hu
    cases q with
    | non => cases rx; exact ⟨rfl, by simp⟩
    | bl b' => cases rx; exact ⟨rfl, by simp⟩
    | int i => obtain ⟨t, rfl⟩ := rx; exact ⟨rfl, by simp⟩
    | str i => obtain ⟨t, rfl⟩ := rx; exact ⟨rfl, by simp⟩
    | tup _ _ => cases rx; exact ⟨rfl, by simp⟩
    | ref _ => cases rx; exact ⟨rfl, by simp⟩
    | frl _ _ => cases rx; exact ⟨rfl, by simp⟩
  unfold isR at e
  split at e
  · cases e
    cases rv_non qy
    exact non qx ry
  · cases e
    cases rv_non qy
    obtain ⟨a, xs, rfl, _⟩ := qx
    cases rx; cases ry
    exact ⟨rfl, by simp⟩
  · cases e
    cases rv_bl qy
    exact val qx ry
  · cases e
theorem is_ok {b : Bool} (I : Inv X pins σ H s) (rx : L2.RelV x v) (ry : L2.RelV y u) (qx : RR X.prog X.w X.K H0 ι H x r) (qy : RR X.prog X.w X.K H1 ι H y q) (e : isR r q = some b) {Q : VK} (h : Q (.bl b) H) :
    wpAny (model X.prog X.w) X.A (compareOp .Is v u) (EP X pins σ Q) X.xe s := by
  obtain ⟨h1, h2⟩ := isR_val rx ry qx qy e
  exact wpAny_is_plain h1 ⟨.bl b, H, I, by rw [h2]; rfl, h⟩
theorem isn_ok {b : Bool} (I : Inv X pins σ H s) (rx : L2.RelV x v) (ry : L2.RelV y u) (qx : RR X.prog X.w X.K H0 ι H x r) (qy : RR X.prog X.w X.K H1 ι H y q) (e : isR r q = some b) {Q : VK} (h : Q (.bl (!b)) H) :
    wpAny (model X.prog X.w) X.A (compareOp .IsNot v u) (EP X pins σ Q) X.xe s := by
  obtain ⟨h1, h2⟩ := isR_val rx ry qx qy e
  exact wpAny_isNot_plain h1 ⟨.bl (!b), H, I, by rw [h2]; rfl, h⟩
/-! ### order -/
theorem alike_of {a b : D} (h : alikeD a b = true) : D.dok 60 a = true ∧ D.dok 60 b = true ∧ PySem.W.alike a.toPy b.toPy = true ∧ a.toPy ≠ .none := by
  simp only [alikeD, Bool.and_eq_true, decide_eq_true_eq] at h
  obtain ⟨⟨⟨h1, h2⟩, h3⟩, h4⟩ := h
  refine ⟨h1, h2, h3, fun e => ?_⟩
  cases a <;> simp [D.toPy] at e <;> first | exact h4 rfl | (simp [D.dok] at h1)
theorem ord_ok {op : Cop} {b : Bool} (hu : X.A.units + 150 < cLine) (I : Inv X pins σ H s) (rx : L2.RelV x v) (ry : L2.RelV y u) (qx : RR X.prog X.w X.K H0 ι H x r) (qy : RR X.prog X.w X.K H1 ι H y q) (e : ordR op r q = some b) {Q : VK} (h : Q (.bl b) H) :
    wpAny (model X.prog X.w) X.A (compareOp op.op v u) (EP X pins σ Q) X.xe s := by
  unfold ordR at e
  split at e
  · cases rv_int qx; cases rv_int qy
    split at e
    · cases e; exact op_lt pins s σ H _ _ v u _ I rx ry ⟨_, _, rfl, rfl, h⟩
    · cases e; exact op_le pins s σ H _ _ v u _ I rx ry ⟨_, _, rfl, rfl, h⟩
    · cases e; exact op_gt pins s σ H _ _ v u _ I rx ry ⟨_, _, rfl, rfl, h⟩
    · cases e; exact op_ge pins s σ H _ _ v u _ I rx ry ⟨_, _, rfl, rfl, h⟩
    · cases e
  · rename_i a c hno
    split at e
    · rename_i hk
      obtain ⟨h1, h2, h3, h4⟩ := alike_of hk
      obtain ⟨as, r1⟩ := Dp.reads I _ _ _ (rv_dp _ 60 h1 qx) rx
      obtain ⟨bs, r2⟩ := Dp.reads I _ _ _ (rv_dp _ 60 h2 qy) ry
      have hd : ∀ m : Nat, X.A.units + min a.toPy.depth m < cLine := fun m => by
        have h5 := toPy_depth _ _ h1
        have h6 := Nat.min_le_left a.toPy.depth m
        omega
      split at e
      · cases e; exact W.lt_data r1 r2 h3 h4 (hd _) ⟨.bl _, H, I, rfl, h⟩
      · cases e; exact W.le_data r1 r2 h3 h4 (hd _) ⟨.bl _, H, I, rfl, h⟩
      · cases e; exact W.gt_data r1 r2 h3 h4 (hd _) ⟨.bl _, H, I, rfl, h⟩
      · cases e; exact W.ge_data r1 r2 h3 h4 (hd _) ⟨.bl _, H, I, rfl, h⟩
      · cases e
    · cases e
  · cases e
end
end LK

set_option Elab.async false
set_option linter.all false
set_option autoImplicit false
set_option maxRecDepth 100000
set_option maxHeartbeats 4000000
/-! LkIn: dicts and membership. -/
namespace LK
open PySem PySem.Spec PyProof.Rows L2

theorem dfind_pos {p : D × D} {r : List (D × D)} {d : D} (e : p.1 = d) : dfind (p :: r) d = some p.2 := by simp [dfind, List.find?_cons, e]
theorem dfind_neg {p : D × D} {r : List (D × D)} {d : D} (e : ¬ p.1 = d) : dfind (p :: r) d = dfind r d := by simp [dfind, List.find?_cons, e]
theorem atKey_pos {p : NestedKey × Addr × Value} {r : List (NestedKey × Addr × Value)} {d : NestedKey} (e : p.1 = d) : atKey (p :: r) d = some p.2 := by simp [atKey, List.find?_cons, e]
theorem atKey_neg {p : NestedKey × Addr × Value} {r : List (NestedKey × Addr × Value)} {d : NestedKey} (e : ¬ p.1 = d) : atKey (p :: r) d = atKey r d := by simp [atKey, List.find?_cons, e]
mutual
theorem nk_inj : ∀ (a : D) (k : Nat) (b : D) (j : Nat), D.kok k a = true → D.kok j b = true → nk a = nk b → a = b
  | .int i, _, b, j, _, hb, e => by
    cases b with
    | int i' => rw [nk, nk] at e; cases e; rfl
    | str _ => simp [nk] at e
    | tup _ => simp [nk] at e
    | _ => cases j <;> simp [D.kok] at hb
  | .str i, _, b, j, _, hb, e => by
    cases b with
    | str i' => rw [nk, nk] at e; cases e; rfl
    | int _ => simp [nk] at e
    | tup _ => simp [nk] at e
    | _ => cases j <;> simp [D.kok] at hb
  | .tup xs, k, b, j, ha, hb, e => by
    cases b with
    | tup ys =>
      cases k with
      | zero => simp [D.kok] at ha
      | succ k =>
        cases j with
        | zero => simp [D.kok] at hb
        | succ j =>
          rw [D.kok] at ha hb
          rw [nk, nk] at e
          injection e with e
          rw [nkL_inj xs k ys j ha hb e]
    | int _ => simp [nk] at e
    | str _ => simp [nk] at e
    | _ => cases j <;> simp [D.kok] at hb
  | .non, k, _, _, ha, _, _ => by cases k <;> simp [D.kok] at ha
  | .bl _, k, _, _, ha, _, _ => by cases k <;> simp [D.kok] at ha
  | .ref _, k, _, _, ha, _, _ => by cases k <;> simp [D.kok] at ha
  | .frl _, k, _, _, ha, _, _ => by cases k <;> simp [D.kok] at ha
theorem nkL_inj : ∀ (a : List D) (k : Nat) (b : List D) (j : Nat), a.all (D.kok k) = true → b.all (D.kok j) = true → nkL a = nkL b → a = b
  | [], _, [], _, _, _, _ => rfl
  | [], _, _ :: _, _, _, _, e => by simp [nkL] at e
  | _ :: _, _, [], _, _, _, e => by simp [nkL] at e
  | x :: xs, k, y :: ys, j, ha, hb, e => by
    rw [List.all_cons, Bool.and_eq_true] at ha hb
    rw [nkL, nkL] at e
    injection e with e1 e2
    rw [nk_inj x k y j ha.1 hb.1 e1, nkL_inj xs k ys j ha.2 hb.2 e2]
end
mutual
theorem nk_depth : ∀ (a : D) (k : Nat), D.kok k a = true → (nk a).depth ≤ k
  | .int i, _, _ => Nat.zero_le _
  | .str i, _, _ => Nat.zero_le _
  | .tup xs, 0, ha => by simp [D.kok] at ha
  | .tup xs, k + 1, ha => by
    rw [D.kok] at ha
    rw [nk, NestedKey.depth]
    exact Nat.succ_le_succ (nkL_depth xs k ha)
  | .non, k, _ => Nat.zero_le _
  | .bl _, k, _ => Nat.zero_le _
  | .ref _, k, _ => Nat.zero_le _
  | .frl _, k, _ => Nat.zero_le _
theorem nkL_depth : ∀ (a : List D) (k : Nat), a.all (D.kok k) = true → NestedKey.depthAll (nkL a) ≤ k
  | [], _, _ => Nat.zero_le _
  | x :: xs, k, ha => by
    rw [List.all_cons, Bool.and_eq_true] at ha
    rw [nkL, NestedKey.depthAll]
    exact Nat.max_le.mpr ⟨nk_depth x k ha.1, nkL_depth xs k ha.2⟩
end
section
variable {X : Cx} {pins : List (Addr × Obj)} {σ : L2.St} {s : Shared} {ι : List Addr} {G : Hpp} {H H0 H1 : Hp} {x y : V} {v u : Value} {r q : R}
  {XC : Str → D → List Addr → Hp → Value → Option Addr → Prop} {W : Value → Option Addr → Hp → Prop} {QQ : R → List Addr → Hpp → Hp → V → Prop}
mutual
theorem nk_is (I : Inv X pins σ H s) : ∀ (d : D) (k : Nat) (x : V) (v : Value), D.kok k d = true → RV X.K ι H x d → L2.RelV x v → NestedIs s.heap (nk d) v
  | .int i, _, _, _, _, h, r => by cases h; obtain ⟨t, rfl⟩ := r; exact .int _ _
  | .str i, _, _, _, _, h, r => by cases h; obtain ⟨t, rfl⟩ := r; exact .text _ _
  | .tup xs, 0, _, _, hk, _, _ => by simp [D.kok] at hk
  | .tup xs, k + 1, _, _, hk, h, r => by
    rw [D.kok] at hk
    cases h with
    | tup h1 h2 =>
      cases r
      obtain ⟨its, rv, ⟨o, ho, hc, n, hd⟩, _⟩ := I.tuple h1
      exact .tup ho hc hd (nkL_is I xs k _ _ hk h2 rv)
  | .non, k, _, _, hk, _, _ => by cases k <;> simp [D.kok] at hk
  | .bl _, k, _, _, hk, _, _ => by cases k <;> simp [D.kok] at hk
  | .ref _, k, _, _, hk, _, _ => by cases k <;> simp [D.kok] at hk
  | .frl _, k, _, _, hk, _, _ => by cases k <;> simp [D.kok] at hk
theorem nkL_is (I : Inv X pins σ H s) : ∀ (ds : List D) (k : Nat) (xs : List V) (vs : List Value), ds.all (D.kok k) = true → RVs X.K ι H xs ds → Vals xs vs → NestedAll s.heap (nkL ds) vs
  | [], _, _, _, _, h, r => by cases h; cases r; exact .nil
  | d :: ds, k, _, _, hk, h, r => by
    rw [List.all_cons, Bool.and_eq_true] at hk
    cases h with
    | cons h1 h2 =>
      cases r with
      | cons r1 r2 => exact .cons (nk_is I d k _ _ hk.1 h1 r1) (nkL_is I ds k _ _ hk.2 h2 r2)
end
/-- what is found in both -/
def Both (K : PySem.W.Frag) (ι : List Addr) (H : Hp) : Option V → Option D → Prop
  | some v, some d => RV K ι H v d
  | none, none => True
  | _, _ => False
theorem Both.isSome {K : PySem.W.Frag} {o : Option V} {d : Option D} (h : Both K ι H o d) : o.isSome = d.isSome := by
  cases o <;> cases d <;> first | rfl | exact h.elim
theorem key_of {d : D} (hk : keyFor false d = true) (h : RV X.K ι H x d) : ∃ k : Key, x = kV k := by
  simp only [keyFor, Bool.and_eq_true] at hk
  cases h with
  | int i => exact ⟨.inl i, rfl⟩
  | str i => exact ⟨.inr i, rfl⟩
  | _ => simp [D.kok, D.isTup] at hk
theorem kV_rv {k : Key} {d : D} (h : RV X.K ι H (kV k) d) : d = (match k with | .inl i => .int i | .inr z => .str z) := by
  cases k with
  | inl i => cases h; rfl
  | inr z => cases h; rfl
theorem kV_dec {k j : Key} {d e : D} (h : RV X.K ι H (kV k) d) (h' : RV X.K ι H (kV j) e) : decide (k = j) = decide (d = e) := by
  rw [kV_rv h, kV_rv h']
  cases k <;> cases j <;> simp
theorem find_k {k : Key} {d : D} (h : RV X.K ι H (kV k) d) : ∀ {ks : List (Key × V)} {kvs : List (D × D)}, Paired (fun (q : Key × V) (p : D × D) => RV X.K ι H (kV q.1) p.1 ∧ RV X.K ι H q.2 p.2) ks kvs → Both X.K ι H (valV ks k) (dfind kvs d)
  | _, _, .nil => trivial
  | q :: ks, p :: kvs, .cons h1 hs => by
    have e := kV_dec h1.1 h
    by_cases hq : q.1 = k
    · have hp : p.1 = d := of_decide_eq_true (by rw [← e]; exact decide_eq_true hq)
      rw [valV_pos hq, dfind_pos hp]
      exact h1.2
    · have hp : ¬ p.1 = d := of_decide_eq_false (by rw [← e]; exact decide_eq_false hq)
      rw [valV_neg hq, dfind_neg hp]
      exact find_k h hs
abbrev TP2 (X : Cx) (ι : List Addr) (H : Hp) : NestedKey × Addr × Value → D × D → Prop := fun x p => x.1 = nk p.1 ∧ D.kok 8 p.1 = true ∧ p.1.isTup = true ∧ RV X.K ι H (.ref x.2.1) p.1 ∧ ∃ y, L2.RelV y x.2.2 ∧ RV X.K ι H y p.2
theorem find_t {d : D} (hk : D.kok 8 d = true) : ∀ {xs : List (NestedKey × Addr × Value)} {kvs : List (D × D)}, Paired (TP2 X ι H) xs kvs →
    (atKey xs (nk d)).isSome = (dfind kvs d).isSome ∧ ∀ e, dfind kvs d = some e → ∃ p, atKey xs (nk d) = some p ∧ ∃ y, L2.RelV y p.2 ∧ RV X.K ι H y e
  | _, _, .nil => ⟨rfl, fun e h => by cases h⟩
  | x :: xs, p :: kvs, .cons ⟨h1, h2, h3, h4, h5⟩ hs => by
    obtain ⟨i1, i2⟩ := find_t hk hs
    by_cases hp : p.1 = d
    · have hx : x.1 = nk d := by rw [h1, hp]
      refine ⟨?_, fun e he => ?_⟩
      · rw [atKey_pos hx, dfind_pos hp]; rfl
      · rw [dfind_pos hp] at he
        have he' : p.2 = e := Option.some.inj he
        rw [atKey_pos hx]
        subst he'
        exact ⟨_, rfl, h5⟩
    · have hx : ¬ x.1 = nk d := fun e => hp (nk_inj _ _ _ _ h2 hk (h1 ▸ e))
      refine ⟨?_, fun e he => ?_⟩
      · rw [atKey_neg hx, dfind_neg hp]; exact i1
      · rw [dfind_neg hp] at he
        rw [atKey_neg hx]
        exact i2 e he
theorem dictOb_at {a : Addr} {xs : List (NestedKey × Addr × Value)} {kvs : List (D × D)} (I : Inv X pins σ H s) (h : H a = some (DictOb X.prog X.w a xs)) (hp : Paired (TP2 X ι H) xs kvs) :
    (a == sysModules) = false ∧ s.heap.DictOfH (nestedKind X.prog X.w) a xs := by
  obtain ⟨⟨hs, o, es, ep, h1, h2, h3, h4, h5⟩, _⟩ := I.hok a _ h
  refine ⟨hs, o, es, ep, h1, h2, h3, h4, fun x hx => ?_, h5⟩
  have all : ∀ {l : List (NestedKey × Addr × Value)} {m : List (D × D)}, Paired (TP2 X ι H) l m → ∀ x ∈ l, (nestedKind X.prog X.w).is s.heap x.1 x.2.1 := by
    intro l m q
    induction q with
    | nil => intro x hx; exact nomatch hx
    | @cons p q ps qs hq t ih =>
      intro x hx
      rcases List.mem_cons.mp hx with e | hx
      · subst e
        obtain ⟨h1, h2, h3, h4, h5⟩ := hq
        refine ⟨?_, ?_⟩
        · rw [h1]; exact nk_is I _ 8 _ _ h2 h4 rfl
        · rw [h1]; exact nk_depth _ _ h2
      · exact ih x hx
  exact all hp x hx
theorem key_t {d : D} (hk : keyFor true d = true) (I : Inv X pins σ H s) (h : RV X.K ι H x d) (rx : L2.RelV x v) : ∃ b, v = .ref b ∧ x = .ref b ∧ (nestedKind X.prog X.w).is s.heap (nk d) b ∧ D.kok 8 d = true := by
  simp only [keyFor, Bool.and_eq_true] at hk
  cases h with
  | tup h1 h2 =>
    cases rx
    exact ⟨_, rfl, rfl, ⟨nk_is I _ 8 _ _ hk.1 (.tup h1 h2) rfl, nk_depth _ _ hk.1⟩, hk.1⟩
  | _ => simp [D.isTup] at hk
/-- d in a dict, d not in it -/
theorem inDict_ok {a : Addr} {t : Bool} {kvs : List (D × D)} {d : D} (hu : X.A.units + 150 < cLine) (I : Inv X pins σ H s) (rx : L2.RelV x v) (qx : RV X.K ι H x d) (hd : DctOk X.prog X.w X.K ι H a t kvs) (hk : keyFor t d = true) {Q : VK} {neg : Bool} (h : Q (.bl (if neg = true then !(dfind kvs d).isSome else (dfind kvs d).isSome)) H) :
    wpAny (model X.prog X.w) X.A (compareOp (if neg = true then .NotIn else .In) v (.ref a)) (EP X pins σ Q) X.xe s := by
  cases t with
  | false =>
    obtain ⟨ks, h1, h2⟩ := hd
    obtain ⟨k, rfl⟩ := key_of hk qx
    have b := (find_k qx h2).isSome
    cases neg with
    | false => exact d_in (by omega) I (DGet.k h1) rx fun s' I' => ⟨.bl _, H, I', rfl, by rw [b]; exact h⟩
    | true => exact d_notIn (by omega) I (DGet.k h1) rx fun s' I' => ⟨.bl _, H, I', rfl, by rw [b]; exact h⟩
  | true =>
    obtain ⟨xs, h1, _, h2⟩ := hd
    obtain ⟨hs, hh⟩ := dictOb_at I h1 h2
    obtain ⟨b, rfl, rfl, hi, hk8⟩ := key_t hk I qx rx
    have e := (find_t (X := X) (ι := ι) (H := H) hk8 h2).1
    have hroom : (nestedKind X.prog X.w).room X.A.in1 := by show X.A.units + 1 + 8 < cLine; omega
    cases neg with
    | false => exact wpAny_in_heap hroom hi hs hh ⟨.bl _, H, I.tok _, rfl, by rw [e]; exact h⟩
    | true => exact wpAny_notIn_heap hroom hi hs hh ⟨.bl _, H, I.tok _, rfl, by rw [e]; exact h⟩
theorem getDict_ok {a : Addr} {t : Bool} {kvs : List (D × D)} {d e : D} (hu : X.A.units + 150 < cLine) (I : Inv X pins σ H s) (rx : L2.RelV x v) (qx : RV X.K ι H x d) (hd : DctOk X.prog X.w X.K ι H a t kvs) (hk : keyFor t d = true) (hf : dfind kvs d = some e) {Q : VK}
    (h : ∀ y, RV X.K ι H y e → Q y H) : wpAny (model X.prog X.w) X.A (getItem (.ref a) v) (EP X pins σ Q) X.xe s := by
  cases t with
  | false =>
    obtain ⟨ks, h1, h2⟩ := hd
    obtain ⟨k, rfl⟩ := key_of hk qx
    have b := find_k qx h2
    rw [hf] at b
    cases ez : valV ks k with
    | none => rw [ez] at b; exact b.elim
    | some z =>
      rw [ez] at b
      exact d_getItem (by omega) I (by rw [← ez]; exact DGet.k h1) rx fun w' s' I' r' => ⟨z, H, I', r', h z b⟩
  | true =>
    obtain ⟨xs, h1, _, h2⟩ := hd
    obtain ⟨hs, hh⟩ := dictOb_at I h1 h2
    obtain ⟨b, rfl, rfl, hi, hk8⟩ := key_t hk I qx rx
    obtain ⟨p, hp, y, r1, r2⟩ := (find_t (X := X) (ι := ι) (H := H) hk8 h2).2 e hf
    have hroom : (nestedKind X.prog X.w).room X.A.in1 := by show X.A.units + 1 + 8 < cLine; omega
    exact wpAny_getItem_heap hroom hi hh hp ⟨y, H, I.tok _, r1, h y r2⟩
theorem inR_ok {b neg : Bool} (hu : X.A.units + 150 < cLine) (I : Inv X pins σ H s) (hr : HR X.prog X.w X.K ι G H) (rx : L2.RelV x v) (ry : L2.RelV y u) (qx : RR X.prog X.w X.K H0 ι H x r) (qy : RR X.prog X.w X.K H1 ι H y q)
    (e : inR r q G = some b) {Q : VK} (h : Q (.bl (if neg = true then !b else b)) H) : wpAny (model X.prog X.w) X.A (compareOp (if neg = true then .NotIn else .In) v u) (EP X pins σ Q) X.xe s := by
  have seqc : ∀ {d : D} {ds : List D} {a : Addr} {xs : List V}, RV X.K ι H x d → y = .ref a → (SqL X.K H a xs ∨ SqT X.K H a xs) → RVs X.K ι H xs ds → (D.dok 60 d && ds.all (D.dok 60)) = true → (ds.any fun z => D.eqv z d) = b →
      wpAny (model X.prog X.w) X.A (compareOp (if neg = true then .NotIn else .In) v u) (EP X pins σ Q) X.xe s := by
    intro d ds a xs qd ey hs hxs hk hb
    subst ey
    cases ry
    rw [Bool.and_eq_true] at hk
    obtain ⟨as, r1⟩ := Dp.reads I _ _ _ (rv_dp _ 60 hk.1 qd) rx
    have hroom : X.A.units + 1 + min (PyData.depthAll (D.toPyL ds)) d.toPy.depth < cLine := by
      have h5 := toPyL_depth _ _ hk.2
      have h6 := Nat.min_le_left (PyData.depthAll (D.toPyL ds)) d.toPy.depth
      omega
    have he := any_eqv hk.1 ds hk.2
    rw [hb] at he
    have pl := toPyL_plain _ _ hk.2
    have pd := toPy_plain _ _ hk.1
    rcases hs with hs | hs
    · obtain ⟨bs, r2⟩ := Dp.reads I (.list (D.toPyL ds)) _ (.ref a) (.lst hs (rvs_dp _ 60 hk.2 hxs)) rfl
      cases neg with
      | false => exact SeqAt.in_list_data r2 r1 pl pd hroom ⟨.bl b, H, I, by rw [he]; rfl, h⟩
      | true => exact SeqAt.notIn_list_data r2 r1 pl pd hroom ⟨.bl (!b), H, I, by rw [he]; rfl, h⟩
    · obtain ⟨bs, r2⟩ := Dp.reads I (.tuple (D.toPyL ds)) _ (.ref a) (.tup hs (rvs_dp _ 60 hk.2 hxs)) rfl
      cases neg with
      | false => exact SeqAt.in_tuple_data r2 r1 pl pd hroom ⟨.bl b, H, I, by rw [he]; rfl, h⟩
      | true => exact SeqAt.notIn_tuple_data r2 r1 pl pd hroom ⟨.bl (!b), H, I, by rw [he]; rfl, h⟩
  unfold inR at e
  split at e
  · cases qy with
    | ref hn =>
      split at e
      · rename_i t kvs hg
        split at e
        · rename_i hk
          cases e
          cases ry
          exact inDict_ok hu I rx qx (hr.cell _ _ _ hg hn) hk h
        · cases e
      · rename_i ds hg
        split at e
        · rename_i hk
          obtain ⟨xs, h1, h2⟩ := hr.cell _ _ _ hg hn
          exact seqc qx rfl (.inl (SqL.of h1)) h2 hk (Option.some.inj e)
        · cases e
      · cases e
  · split at e
    · rename_i hk
      obtain ⟨a, xs, e1, h1, h2⟩ := rv_tup qy
      exact seqc qx e1 (.inr h1) h2 hk (Option.some.inj e)
    · cases e
  · split at e
    · rename_i hk
      obtain ⟨a, xs, e1, h1, h2, _⟩ := qy
      exact seqc qx e1 (.inl (SqL.of h1)) h2 hk (Option.some.inj e)
    · cases e
  · cases e
theorem cmp_ok {op : Cop} {b : Bool} (hu : X.A.units + 150 < cLine) (I : Inv X pins σ H s) (hr : HR X.prog X.w X.K ι G H) (rx : L2.RelV x v) (ry : L2.RelV y u) (qx : RR X.prog X.w X.K H0 ι H x r) (qy : RR X.prog X.w X.K H1 ι H y q)
    (e : cmpR op r q G = some b) {Q : VK} (h : Q (.bl b) H) : wpAny (model X.prog X.w) X.A (compareOp op.op v u) (EP X pins σ Q) X.xe s := by
  have neg : ∀ {o : Option Bool}, o.map (!·) = some b → ∃ c, o = some c ∧ b = !c := fun {o} z => by
    cases o with
    | none => cases z
    | some c => exact ⟨c, rfl, (Option.some.inj z).symm⟩
  cases op with
  | eq => exact eq_ok hu I hr rx ry qx qy e h
  | ne => obtain ⟨c, e1, rfl⟩ := neg e; exact ne_ok hu I hr rx ry qx qy e1 h
  | is => exact is_ok I rx ry qx qy e h
  | isn => obtain ⟨c, e1, rfl⟩ := neg e; exact isn_ok I rx ry qx qy e1 h
  | isin => exact inR_ok (neg := false) hu I hr rx ry qx qy e h
  | notin => obtain ⟨c, e1, rfl⟩ := neg e; exact inR_ok (neg := true) hu I hr rx ry qx qy e1 h
  | lt => exact ord_ok (op := .lt) hu I rx ry qx qy e h
  | le => exact ord_ok (op := .le) hu I rx ry qx qy e h
  | gt => exact ord_ok (op := .gt) hu I rx ry qx qy e h
  | ge => exact ord_ok (op := .ge) hu I rx ry qx qy e h
end
end LK

set_option Elab.async false
set_option linter.all false
set_option autoImplicit false
set_option maxRecDepth 100000
set_option maxHeartbeats 4000000
/-! LkSeq: subscripts, slices, lengths, built-ins over sequences, methods of lists. -/
namespace LK
open PySem PySem.Spec PyProof.Rows L2

theorem rvs_atI {K : PySem.W.Frag} {ι : List Addr} {H : Hp} {xs : List V} {ds : List D} {i : Int} {d : D} (h : RVs K ι H xs ds) (e : L2.atI ds i = some d) : ∃ z, L2.atI xs i = some z ∧ RV K ι H z d := by
  unfold L2.atI at e ⊢
  rw [h.length]
  cases q : L2.ixN ds.length i with
  | none => rw [q] at e; cases e
  | some j =>
    rw [q] at e
    exact h.get e
section
variable {X : Cx} {pins : List (Addr × Obj)} {σ : L2.St} {s : Shared} {ι : List Addr} {G : Hpp} {H H0 H1 : Hp} {x y : V} {v u : Value} {r q : R}
  {XC : Str → D → List Addr → Hp → Value → Option Addr → Prop} {W : Value → Option Addr → Hp → Prop} {QQ : R → List Addr → Hpp → Hp → V → Prop}
/-! ### subscripts -/
theorem subTail_dict {prog : Program} {w : World} {A : Around} {E : Value → Shared → Prop} {value slice : Expr} {o i : Value} {Q : Value → Shared → Prop} (hT : s.TypeIs o "dict") (hs : subscripted slice false o i = operate [o, i] (getItem o i))
    (h : wpAny (model prog w) A (getItem o i) Q E s) : wpAny (model prog w) A (subscriptTail value slice o i) Q E s := by
  unfold subscriptTail
  refine wpAny_bind ?_
  rw [getitemInPython_of_ne hT.not_modules]
  refine wpAny_bind (wpAny_specialOf hT PySem.F.slot_dict_getitem.lookup ?_)
  have fin : wpAny (model prog w) A (subscripted slice false o i) (fun r s₃ => wpAny (model prog w) A (letTemporaryGo value o r >>= fun _ => pure r) Q E s₃) E s := by
    rw [hs]
    exact wpAny_operating (wpAny_mono h (fun r s₃ h₃ => wpAny_bind (wpAny_letTemporaryGo (wpAny_pure h₃))) fun _ _ x => x)
  first
    | exact wpAny_pure (wpAny_bind fin)
    | exact wpAny_bind (wpAny_pure (wpAny_bind fin))
    | exact wpAny_bind fin
theorem dct_typeIs {a : Addr} {t : Bool} {kvs : List (D × D)} (I : Inv X pins σ H s) (hd : DctOk X.prog X.w X.K ι H a t kvs) : s.TypeIs (.ref a) "dict" := by
  cases t with
  | false =>
    obtain ⟨ks, h1, h2⟩ := hd
    obtain ⟨_, _, vs, _, dd⟩ := dk_of I.hok h1
    exact dd.typeIs
  | true =>
    obtain ⟨xs, h1, _, h2⟩ := hd
    exact (dictOb_at I h1 h2).2.typeIs
theorem idx_ok {value slice : Expr} (hu : X.A.units + 150 < cLine) (I : Inv X pins σ H s) (hr : HR X.prog X.w X.K ι G H) (rx : L2.RelV x v) (ry : L2.RelV y u) (qx : RR X.prog X.w X.K H0 ι H x r) (qy : RR X.prog X.w X.K H1 ι H y q)
    (hs : subscripted slice false v u = operate [v, u] (getItem v u)) (h : PRes X XC W ι H QQ (idxR r q G)) : wpAny (model X.prog X.w) X.A (subscriptTail value slice v u) (EP X pins σ (QV QQ)) X.xe s := by
  have seqc : ∀ {ds : List D} {a : Addr} {xs : List V} {i : Int} {d : D}, x = .ref a → (SqL X.K H a xs ∨ SqT X.K H a xs) → RVs X.K ι H xs ds → y = .int i → L2.atI ds i = some d → PRes X XC W ι H QQ (okV d G) →
      wpAny (model X.prog X.w) X.A (subscriptTail value slice v u) (EP X pins σ (QV QQ)) X.xe s := by
    intro ds a xs i d ex hq hxs ey hi hp
    obtain ⟨z, hz, rz⟩ := rvs_atI hxs hi
    rcases hq with hq | hq
    · exact ix_list value slice pins s σ H x y v u _ I rx ry ⟨a, xs, i, z, ex, ey, hq, hz, ok_val hr hp rz⟩ hs
    · exact ix_tup value slice pins s σ H x y v u _ I rx ry ⟨a, xs, i, z, ex, ey, hq, hz, ok_val hr hp rz⟩ hs
  unfold idxR at h
  split at h
  · cases qx with
    | ref hn =>
      split at h
      · rename_i t kvs hg
        split at h
        · rename_i hk
          split at h
          · rename_i e hf
            cases rx
            have hd := hr.cell _ _ _ hg hn
            exact subTail_dict (dct_typeIs I hd) hs (getDict_ok hu I ry qy hd hk hf fun z rz => ok_val hr h rz)
          · exact h.elim
        · exact h.elim
      · rename_i ds hg
        obtain ⟨xs, h1, h2⟩ := hr.cell _ _ _ hg hn
        split at h
        · split at h
          · rename_i d hi
            exact seqc rfl (.inl (SqL.of h1)) h2 (rv_int qy) hi h
          · exact h.elim
        · exact h.elim
      · exact h.elim
  · split at h
    · rename_i ds he
      obtain ⟨a, xs, e1, h1, h2⟩ := rr_seqOf hr qx he
      split at h
      · rename_i d hi
        exact seqc e1 h1 h2 (rv_int qy) hi h
      · exact h.elim
    · exact h.elim
  · exact h.elim
/-! ### slices -/
theorem getItem_tuple_all {P : Program} {w : World} {A : Around} {E : Value → Shared → Prop} {t sl : Addr} {items : Array Value} {vl vu : Value} {lo hi : Option Int} {Q : Value → Shared → Prop} (ht : IsTup s.heap t items) (hs : s.heap.IsSliceOf sl vl vu .none) (pl : IsPart vl lo) (pu : IsPart vu hi)
    (hw : HT.sIx items.size 0 lo = 0 ∧ HT.sIx items.size items.size hi = items.size) (h : Q (.ref t) s) (hsz : items.size ≤ sizeLine) : wpAny (model P w) A (getItem (.ref t) (.ref sl)) Q E s := by
  obtain ⟨os, hos, hcs, hds⟩ := id hs
  have hTs : s.TypeIs (.ref sl) "slice" := ⟨os, hos, hcs⟩
  unfold getItem
  try with_reducible refine wpAny_holding ?_
  first | refine wpAny_bind (wpAny_pure ?_) | skip
  refine wpAny_bind (wpAny_sequenceKey ht.typeIs (by decide) ?_)
  refine wpAny_bind (wpAny_callSpecial?_slot (name := Str.ofString "__getitem__") ht.typeIs PyProof.Rows.slot_tuple_getitem
    (wpAny_call_entry PyProof.Rows.slot_tuple_getitem ht.typeIs entry_tuple_getitem ?_ (args_tuple_getitem _ _)))
  show wpAny _ _ (Builtin.Tuple.tupleItemsOf (.ref t) >>= _) _ _ s
  refine wpAny_bind (tupleItemsOf_ ht ?_)
  refine wpAny_bind (wpAny_typeOf hTs ?_)
  rw [if_pos (by decide)]
  refine wpAny_bind (HT.sliceApplied_gen hs pl pu ?_)
  show wpAny _ _ (if (((HT.sIx items.size 0 lo : Nat) : Int) == 0 && (1 : Int) == 1 && (HT.sIx items.size items.size hi - HT.sIx items.size 0 lo) == items.size) = true then _ else _) _ _ s
  rw [if_pos (by rw [hw.1, hw.2]; simp)]
  have fin : wpAny (model P w) A.in1 (do rule "tuple.getitem.whole"; ret (.ref t)) (fun f s' => ∃ v, f = Fin.done (Flow.ret v) ∧ wpAny (model P w) A (pure v) Q E s') E s := wpAny_bind (wpAny_rule (wpAny_pure ⟨_, rfl, wpAny_pure h⟩))
  unfold Builtin.Tuple.tupleIsExact
  refine wpAny_bind (wpAny_bind (wpAny_typeOf ht.typeIs (wpAny_pure ?_)))
  rw [if_pos (by decide)]
  exact fin
theorem cutV_all (xs : List V) (lo hi : Option Int) (hw : HT.sIx xs.length 0 lo = 0 ∧ HT.sIx xs.length xs.length hi = xs.length) : cutV xs lo hi = xs := by
  unfold cutV
  rw [hw.1, hw.2]
  simp
theorem rvs_cut {K : PySem.W.Frag} {xs : List V} {ds : List D} (h : RVs K ι H xs ds) (lo hi : Option Int) : RVs K ι H (cutV xs lo hi) (cutD ds lo hi) := by
  unfold cutV cutD
  rw [h.length]
  exact (h.drop _).take _
/-- a slice by values -/
theorem slc_ok {lo hi : Option Int} {vl vu : Value} {sl : Addr} (I : Inv X pins σ H s) (hr : HR X.prog X.w X.K ι G H) (rx : L2.RelV x v) (qx : RR X.prog X.w X.K H0 ι H x r) (hs : s.heap.IsSliceOf sl vl vu .none) (pl : IsPart vl lo) (pu : IsPart vu hi)
    (h : PRes X XC W ι H QQ (cutR r lo hi G)) :
    ∃ T id, typeLookup (.type T) "__getitem__" = pure (some (.builtin id)) ∧ s.TypeIs v T ∧ wpAny (model X.prog X.w) X.A (getItem v (.ref sl)) (EP X pins σ (QV QQ)) X.xe s := by
  unfold cutR at h
  split at h
  · obtain ⟨a, xs, rfl, hx, hxs⟩ := rv_tup qx
    by_cases hw : HT.sIx xs.length 0 lo = 0 ∧ HT.sIx xs.length xs.length hi = xs.length
    · cases rx
      obtain ⟨its, r', ht, hz⟩ := I.tuple hx
      have hlen : its.toArray.size = xs.length := by rw [List.size_toArray]; exact r'.length.symm
      refine ⟨"tuple", _, PyProof.Rows.slot_tuple_getitem.lookup, ht.typeIs, getItem_tuple_all ht hs pl pu (by rw [hlen]; exact hw) ?_ (by rw [hlen]; exact hz)⟩
      have e := rvs_cut hxs lo hi
      rw [cutV_all xs lo hi hw] at e
      exact ⟨.ref a, H, I, rfl, ok_val hr h (.tup hx e)⟩
    · exact sl_tup pins s σ H _ v vl vu lo hi sl _ I rx hs pl pu ⟨a, xs, rfl, hx, hw, fun p hp => ok_tup hr h (rvs_cut hxs lo hi) hp⟩
  · split at h
    · rename_i e
      obtain ⟨a, xs, rfl, hx, hxs⟩ := rr_lstOf hr qx e
      exact sl_list pins s σ H _ v vl vu lo hi sl _ I rx hs pl pu ⟨a, xs, rfl, hx, fun p hp => ok_lst hr h (rvs_cut hxs lo hi) hp⟩
    · exact h.elim
/-! ### len, isinstance -/
theorem len_ok (I : Inv X pins σ H s) (hr : HR X.prog X.w X.K ι G H) (rx : L2.RelV x v) (qx : RR X.prog X.w X.K H0 ι H x r) (h : PRes X XC W ι H QQ (lenR r G)) :
    wpAny (model X.prog X.w) X.A (call (.builtin "len") [v]) (EP X pins σ (QV QQ)) X.xe s := by
  have seqc : ∀ {ds : List D} {a : Addr} {xs : List V}, x = .ref a → (SqL X.K H a xs ∨ SqT X.K H a xs) → RVs X.K ι H xs ds → PRes X XC W ι H QQ (okV (.int ds.length) G) →
      wpAny (model X.prog X.w) X.A (call (.builtin "len") [v]) (EP X pins σ (QV QQ)) X.xe s := fun {ds a xs} ex hq hxs hp =>
    call_len_seq pins s σ H [x] [v] _ I (.cons rx .nil) ⟨a, xs, by rw [ex], hq, by rw [hxs.length]; exact ok_val hr hp (.int _)⟩
  unfold lenR at h
  split at h
  · split at h
    · rename_i hl
      cases rv_str qx
      exact call_len_str pins s σ H _ [v] _ I (.cons rx .nil) ⟨_, rfl, Nat.le_trans hl lim_line, ok_val hr h (.int _)⟩
    · exact h.elim
  · cases qx with
    | ref hn =>
      split at h
      · rename_i hg
        obtain ⟨xs, h1, h2⟩ := hr.cell _ _ _ hg hn
        exact seqc rfl (.inl (SqL.of h1)) h2 h
      · exact h.elim
  · split at h
    · rename_i e
      obtain ⟨a, xs, e1, h1, h2⟩ := rr_seqOf hr qx e
      exact seqc e1 h1 h2 h
    · exact h.elim
def Ty.nm : Ty → String
  | .int => "int" | .bool => "bool" | .str => "str" | .tuple => "tuple" | .list => "list"
theorem isi_ty {K : PySem.W.Frag} {b : Bool} {t : Ty} (hr : HR X.prog X.w X.K ι G H) (qx : RR X.prog X.w X.K H0 ι H x r) (e : isiR r t G = some b) : ∃ tv : String, TyX X.K H x (.type tv) ∧ PySem.W.kitOne X.K (.type tv) (.type t.nm) = some b := by
  have k : ∀ (a b : String) (c : Bool), kitB a b = some c → PySem.W.kitOne X.K (.type a) (.type b) = some c := fun a b c h => kit_ty h
  have lst : ∀ {a : Addr} {xs : List V}, SqL X.K H a xs → TyX X.K H (.ref a) (.type "list") := by
    intro a xs h
    rcases h with (h | ⟨o, h⟩) | ⟨o, its, n, h, hc, _⟩
    · exact .base (.lst h)
    · exact .base (.frz h)
    · exact .kList h hc
  have tup : ∀ {a : Addr} {xs : List V}, SqT X.K H a xs → TyX X.K H (.ref a) (.type "tuple") := by
    intro a xs h
    rcases h with (h | ⟨o, h⟩) | ⟨o, its, n, h, hc, _⟩
    · exact .base (.tup h)
    · exact .fTuple h
    · exact .kTuple h hc
  unfold isiR at e
  split at e
  · cases e; cases qx; exact ⟨_, .base .non, by cases t <;> exact k _ _ _ (by decide +kernel)⟩
  · cases e; cases qx; exact ⟨_, .base (.bl _), by cases t <;> exact k _ _ _ (by decide +kernel)⟩
  · cases e; cases qx; exact ⟨_, .base (.int _), by cases t <;> exact k _ _ _ (by decide +kernel)⟩
  · cases e; cases qx; exact ⟨_, .base (.str _), by cases t <;> exact k _ _ _ (by decide +kernel)⟩
  · cases e
    obtain ⟨a, xs, rfl, h1, _⟩ := rv_tup qx
    exact ⟨_, tup h1, by cases t <;> exact k _ _ _ (by decide +kernel)⟩
  · cases qx with
    | ref hn =>
      split at e
      · rename_i hg
        cases e
        obtain ⟨xs, h1, h2⟩ := hr.cell _ _ _ hg hn
        exact ⟨_, lst (SqL.of h1), by cases t <;> exact k _ _ _ (by decide +kernel)⟩
      · cases e
  · cases e
    cases qx with
    | frl h1 h2 => exact ⟨_, lst h1.sql, by cases t <;> exact k _ _ _ (by decide +kernel)⟩
  · cases e
    obtain ⟨a, xs, rfl, h1, _⟩ := qx
    exact ⟨_, lst (SqL.of h1), by cases t <;> exact k _ _ _ (by decide +kernel)⟩
  · cases e
theorem isi_ok {b : Bool} {t : Ty} (I : Inv X pins σ H s) (hr : HR X.prog X.w X.K ι G H) (rx : L2.RelV x v) (qx : RR X.prog X.w X.K H0 ι H x r) (e : isiR r t G = some b) {Q : VK} (h : Q (.bl b) H) :
    wpAny (model X.prog X.w) X.A (call (.builtin "isinstance") [v, .type t.nm]) (EP X pins σ Q) X.xe s := by
  obtain ⟨tv, h1, h2⟩ := isi_ty (K := X.K) hr qx e
  exact call_isi pins s σ H [x, .ty t.nm] _ _ I (.cons rx (.cons rfl .nil)) ⟨x, .ty t.nm, _, _, b, rfl, .ty _, h1, h2, h⟩
end
end LK

set_option Elab.async false
set_option linter.all false
set_option autoImplicit false
set_option maxRecDepth 100000
set_option maxHeartbeats 4000000
/-! LkBlt: built-ins over sequences; stores; methods of lists. -/
namespace LK
open PySem PySem.Spec PyProof.Rows L2

mutual
theorem toPy_inj : ∀ (a : D) (k : Nat) (b : D) (j : Nat), D.dok k a = true → D.dok j b = true → a.toPy = b.toPy → a = b
  | .non, _, b, j, _, hb, e => by cases b <;> simp [D.toPy] at e ⊢ <;> (cases j <;> simp [D.dok] at hb)
  | .bl _, _, b, j, _, hb, e => by cases b <;> simp [D.toPy] at e ⊢ <;> first | exact e | (cases j <;> simp [D.dok] at hb)
  | .int _, _, b, j, _, hb, e => by cases b <;> simp [D.toPy] at e ⊢ <;> first | exact e | (cases j <;> simp [D.dok] at hb)
  | .str _, _, b, j, _, hb, e => by cases b <;> simp [D.toPy] at e ⊢ <;> first | exact e | (cases j <;> simp [D.dok] at hb)
  | .ref _, k, _, _, h, _, _ => by cases k <;> simp [D.dok] at h
  | .frl _, k, _, _, h, _, _ => by cases k <;> simp [D.dok] at h
  | .tup xs, k, b, j, ha, hb, e => by
    cases k with
    | zero => simp [D.dok] at ha
    | succ k =>
      cases b with
      | tup ys =>
        cases j with
        | zero => simp [D.dok] at hb
        | succ j =>
          rw [D.dok] at ha hb
          rw [D.toPy, D.toPy] at e
          injection e with e
          rw [toPyL_inj xs k ys j ha hb e]
      | _ => simp [D.toPy] at e
theorem toPyL_inj : ∀ (a : List D) (k : Nat) (b : List D) (j : Nat), a.all (D.dok k) = true → b.all (D.dok j) = true → D.toPyL a = D.toPyL b → a = b
  | [], _, [], _, _, _, _ => rfl
  | [], _, _ :: _, _, _, _, e => by simp [D.toPyL] at e
  | _ :: _, _, [], _, _, _, e => by simp [D.toPyL] at e
  | x :: xs, k, y :: ys, j, ha, hb, e => by
    rw [List.all_cons, Bool.and_eq_true] at ha hb
    rw [D.toPyL, D.toPyL] at e
    injection e with e1 e2
    rw [toPy_inj x k y j ha.1 hb.1 e1, toPyL_inj xs k ys j ha.2 hb.2 e2]
end
theorem ints_of : ∀ {ds : List D} {is : List Int}, intsOf ds = some is → ds = is.map .int
  | [], _, h => by simp [intsOf] at h; subst h; rfl
  | .int i :: r, _, h => by
    simp only [intsOf, Option.map_eq_some_iff] at h
    obtain ⟨js, h1, h2⟩ := h
    subst h2
    rw [ints_of h1]; rfl
  | .non :: _, _, h => by simp [intsOf] at h
  | .bl _ :: _, _, h => by simp [intsOf] at h
  | .str _ :: _, _, h => by simp [intsOf] at h
  | .tup _ :: _, _, h => by simp [intsOf] at h
  | .ref _ :: _, _, h => by simp [intsOf] at h
  | .frl _ :: _, _, h => by simp [intsOf] at h
theorem bls_of : ∀ {ds : List D} {is : List Bool}, blsOf ds = some is → ds = is.map .bl
  | [], _, h => by simp [blsOf] at h; subst h; rfl
  | .bl i :: r, _, h => by
    simp only [blsOf, Option.map_eq_some_iff] at h
    obtain ⟨js, h1, h2⟩ := h
    subst h2
    rw [bls_of h1]; rfl
  | .non :: _, _, h => by simp [blsOf] at h
  | .int _ :: _, _, h => by simp [blsOf] at h
  | .str _ :: _, _, h => by simp [blsOf] at h
  | .tup _ :: _, _, h => by simp [blsOf] at h
  | .ref _ :: _, _, h => by simp [blsOf] at h
  | .frl _ :: _, _, h => by simp [blsOf] at h
theorem rvs_ints {K : PySem.W.Frag} {ι : List Addr} {H : Hp} : ∀ {is : List Int} {xs : List V}, RVs K ι H xs (is.map .int) → xs = is.map V.int
  | [], _, h => by cases h; rfl
  | i :: is, _, h => by
    cases h with
    | cons h hs => cases h; rw [rvs_ints hs]; rfl
theorem rvs_bls {K : PySem.W.Frag} {ι : List Addr} {H : Hp} : ∀ {is : List Bool} {xs : List V}, RVs K ι H xs (is.map .bl) → xs = is.map V.bl
  | [], _, h => by cases h; rfl
  | i :: is, _, h => by
    cases h with
    | cons h hs => cases h; rw [rvs_bls hs]; rfl
theorem all_dok {ds : List D} (h : alikeAllD ds = true) : ds.all (D.dok 60) = true := by
  rw [List.all_eq_true]
  intro d hd
  simp only [alikeAllD, List.all_eq_true] at h
  exact (alike_of (h d hd d hd)).1
theorem minD_toPy : ∀ (ds : List D) (d : D), (minD d ds).toPy = W.minD d.toPy (D.toPyL ds)
  | [], d => rfl
  | x :: xs, d => by
    rw [D.toPyL, minD]
    show _ = List.foldl _ (if W.dataLt x.toPy d.toPy = true then x.toPy else d.toPy) (D.toPyL xs)
    rw [minD_toPy xs]
    show List.foldl _ _ _ = _
    unfold ltD
    split <;> rfl
theorem maxD_toPy : ∀ (ds : List D) (d : D), (maxD d ds).toPy = W.maxD d.toPy (D.toPyL ds)
  | [], d => rfl
  | x :: xs, d => by
    rw [D.toPyL, maxD]
    show _ = List.foldl _ (if W.dataLt d.toPy x.toPy = true then x.toPy else d.toPy) (D.toPyL xs)
    rw [maxD_toPy xs]
    show List.foldl _ _ _ = _
    unfold ltD
    split <;> rfl
theorem minD_mem : ∀ (ds : List D) (d : D), minD d ds ∈ d :: ds
  | [], d => by simp [minD]
  | x :: xs, d => by
    rw [minD]
    have := minD_mem xs (if ltD x d = true then x else d)
    split at this <;> (simp only [List.mem_cons] at this ⊢; rcases this with h | h <;> simp_all)
theorem maxD_mem : ∀ (ds : List D) (d : D), maxD d ds ∈ d :: ds
  | [], d => by simp [maxD]
  | x :: xs, d => by
    rw [maxD]
    have := maxD_mem xs (if ltD d x = true then x else d)
    split at this <;> (simp only [List.mem_cons] at this ⊢; rcases this with h | h <;> simp_all)
theorem alikeAll_of {ds : List D} (h : alikeAllD ds = true) : W.AlikeAll (D.toPyL ds) := by
  simp only [alikeAllD, List.all_eq_true] at h
  rw [toPyL_map]
  refine ⟨fun x hx y hy => ?_, fun x hx => ?_⟩
  · obtain ⟨a, ha, rfl⟩ := List.mem_map.mp hx
    obtain ⟨b, hb, rfl⟩ := List.mem_map.mp hy
    exact (alike_of (h a ha b hb)).2.2.1
  · obtain ⟨a, ha, rfl⟩ := List.mem_map.mp hx
    exact (alike_of (h a ha a ha)).2.2.2
theorem leD_eq : leD = W.dataLe false D.toPy := by
  funext a b
  rfl

section
variable {X : Cx} {pins : List (Addr × Obj)} {σ : L2.St} {s : Shared} {ι : List Addr} {G : Hpp} {H H0 H1 : Hp} {x y : V} {v u : Value} {r q : R}
  {XC : Str → D → List Addr → Hp → Value → Option Addr → Prop} {W : Value → Option Addr → Hp → Prop} {QQ : R → List Addr → Hpp → Hp → V → Prop}
/-- a source of items: collect gives them -/
def Coll (X : Cx) (s : Shared) (v : Value) (xs : List V) : Prop := ∀ (R : List Value → Shared → Prop) (E : Value → Shared → Prop),
  (∀ h' tk acc, (∀ b o, s.heap.get? b = some o → h'.get? b = some o) → Vals xs acc → R acc { s with heap := h', toks := tk }) → wpAny (model X.prog X.w) X.A.in1 (collect v) R E s
theorem coll_seq {a : Addr} {xs : List V} (I : Inv X pins σ H s) (h : SqL X.K H a xs ∨ SqT X.K H a xs) : Coll X s (.ref a) xs := by
  intro R E hR
  rcases h with h | h
  · obtain ⟨its, r, ⟨o, n, ho, hc, _, hd⟩, hz⟩ := I.list h
    have hl := r.length
    exact wpAny_collect_seq a (.inl rfl) ho hc hd (fun h' k => hR h' s.toks _ k (by simpa using r)) (by rw [List.size_toArray]; omega)
  · obtain ⟨its, r, ⟨o, ho, hc, n, hd⟩, hz⟩ := I.tuple h
    have hl := r.length
    exact wpAny_collect_seq a (.inr rfl) ho hc hd (fun h' k => hR h' s.toks _ k (by simpa using r)) (by rw [List.size_toArray]; omega)
theorem paired_at {α β : Type} {R : α → β → Prop} : ∀ {l : List α} {m : List β}, Paired R l m → ∀ {i : Nat} {a : α}, l[i]? = some a → ∃ b, m[i]? = some b ∧ R a b
  | _, _, .nil, _, _, e => by simp at e
  | _, _, .cons h hs, i, a, e => by
    cases i with
    | zero => simp at e; subst e; exact ⟨_, rfl, h⟩
    | succ i => simp at e; simpa using paired_at hs e
theorem paired_at2 {α β : Type} {R : α → β → Prop} : ∀ {l : List α} {m : List β}, Paired R l m → ∀ {i : Nat} {b : β}, m[i]? = some b → ∃ a, l[i]? = some a ∧ R a b
  | _, _, .nil, _, _, e => by simp at e
  | _, _, .cons h hs, i, a, e => by
    cases i with
    | zero => simp at e; subst e; exact ⟨_, rfl, h⟩
    | succ i => simp at e; simpa using paired_at2 hs e
theorem vals_by {xs : List V} {acc : List Value} (hl : acc.length = xs.length) (h : ∀ (j : Nat) (v : Value), acc[j]? = some v → ∃ x, xs[j]? = some x ∧ L2.RelV x v) : Vals xs acc := by
  induction xs generalizing acc with
  | nil =>
    cases acc with
    | nil => exact .nil
    | cons a r => simp at hl
  | cons x xs ih =>
    cases acc with
    | nil => simp at hl
    | cons a r =>
      obtain ⟨x', e, q⟩ := h 0 a rfl
      simp at e; subst e
      refine .cons q (ih (by simpa using hl) fun j v e => ?_)
      have := h (j + 1) v (by simpa using e)
      simpa using this
theorem kV_rel {k : Key} {v : Value} (h : keyIs k v = true) : L2.RelV (kV k) v := by
  rcases keyIs_shape h with ⟨i, t, rfl, rfl⟩ | ⟨z, t, rfl, rfl⟩
  · exact ⟨t, rfl⟩
  · exact ⟨t, rfl⟩
/-- a dict is a source of its keys -/
theorem coll_dct {a : Addr} {t : Bool} {kvs : List (D × D)} (I : Inv X pins σ H s) (hc : X.calm = true) (h : DctOk X.prog X.w X.K ι H a t kvs) : ∃ xs, RVs X.K ι H xs (kvs.map (·.1)) ∧ Coll X s (.ref a) xs ∧
    ∀ (Q : Value → Shared → Prop) (E : Value → Shared → Prop), (∀ h' tk acc' c', (∀ b o, s.heap.get? b = some o → h'.get? b = some o) → h'.get? s.heap.objs.size = some { cls := .type "list", dict := none, data := .seq acc' c', slots := #[] } → Vals xs acc'.toList → Q (.ref s.heap.objs.size) { s with heap := h', toks := tk }) →
      wpAny (model X.prog X.w) X.A (call (.type "list") [.ref a]) Q E s := by
  cases t with
  | false =>
    obtain ⟨ks, h1, h2⟩ := h
    obtain ⟨z, lo, vs, rel, dd⟩ := dk_of I.hok h1
    obtain ⟨ep, hat⟩ := dd.dictAt
    have hks : ∀ {l : List (Key × V)} {m : List (D × D)}, Paired (fun (q : Key × V) (p : D × D) => RV X.K ι H (kV q.1) p.1 ∧ RV X.K ι H q.2 p.2) l m → RVs X.K ι H (l.map fun q => kV q.1) (m.map (·.1)) := by
      intro l m q
      induction q with
      | nil => exact .nil
      | cons h hs ih => exact .cons h.1 ih
    have hn : vs.length ≤ sizeLine := by rw [← Paired.length rel]; exact z
    have hv : ∀ (acc : List Value), acc.length = vs.length → (∀ (j : Nat) (v : Value), acc[j]? = some v → ∃ k x, vs[j]? = some (k, x) ∧ (mixKind X.prog X.w).is k v = true) → Vals (ks.map fun q => kV q.1) acc := by
      intro acc hl hj
      refine vals_by (by rw [hl, List.length_map, Paired.length rel]) fun j v e => ?_
      obtain ⟨k, x, e1, e2⟩ := hj j v e
      obtain ⟨q, eq1, eq2⟩ := paired_at2 rel e1
      refine ⟨kV q.1, by rw [List.getElem?_map, eq1]; rfl, ?_⟩
      rw [eq2.1]
      exact kV_rel e2
    refine ⟨_, hks h2, fun R E hR => ?_, fun Q E hQ => ?_⟩
    · refine PySem.W.kdu_collect (A := X.A.in1) (PySem.W.kdl_dict (knd := mixKind X.prog X.w) (kvs := vs) (ep := ep) lo) (I.ok.hd hc) hat hn fun h' tk acc hk hacc => hR h' tk _ hk (hv _ (by rw [Array.length_toList, hacc.1]) fun j v e => hacc.2 j v (by rw [← Array.getElem?_toList]; exact e))
    · refine PySem.W.kdl_call (A := X.A) (PySem.W.kdl_dict (knd := mixKind X.prog X.w) (kvs := vs) (ep := ep) lo) (I.ok.hd hc) hat hn fun h' tk acc c' hk he hacc => hQ h' tk acc c' hk he (hv _ (by rw [Array.length_toList, hacc.1]) fun j v e => hacc.2 j v (by rw [← Array.getElem?_toList]; exact e))
  | true =>
    obtain ⟨xs, h1, hlim, h2⟩ := h
    obtain ⟨lo, o, es, ep, ho, hx, hdt, he, _, hnd⟩ := dictOb_at I h1 h2
    have hks : ∀ {l : List (NestedKey × Addr × Value)} {m : List (D × D)}, Paired (TP2 X ι H) l m → RVs X.K ι H (l.map fun q => V.ref q.2.1) (m.map (·.1)) := by
      intro l m q
      induction q with
      | nil => exact .nil
      | cons h hs ih => exact .cons h.2.2.2.1 ih
    have hs : es.size = xs.length := size_of_entries he
    have hn : es.size ≤ sizeLine := by rw [hs, Paired.length h2]; exact Nat.le_trans hlim lim_line
    have raw : s.heap.DictRaw a es ep := ⟨o, ho, hx, hdt⟩
    have hv : ∀ (acc : List Value), acc.length = es.size → (∀ (j : Nat) (v : Value), acc[j]? = some v → ∃ hi : j < es.size, v = es[j].key) → Vals (xs.map fun q => V.ref q.2.1) acc := by
      intro acc hl hj
      refine vals_by (by rw [hl, List.length_map, hs]) fun j v e => ?_
      obtain ⟨hi, e2⟩ := hj j v e
      have e3 := entry_at he j
      rw [Array.getElem?_eq_getElem hi] at e3
      cases e4 : xs[j]? with
      | none => rw [e4] at e3; cases e3
      | some q =>
        rw [e4] at e3
        have e5 : es[j] = entryOfKey (nestedKind X.prog X.w) q := Option.some.inj e3
        refine ⟨.ref q.2.1, by rw [List.getElem?_map, e4]; rfl, ?_⟩
        rw [e2, e5]
        rfl
    refine ⟨_, hks h2, fun R E hR => ?_, fun Q E hQ => ?_⟩
    · refine PySem.W.kdu_collect (A := X.A.in1) (PySem.KdlSrc.rawDict (ep := ep) lo) (I.ok.hd hc) raw hn fun h' tk acc hk hacc => hR h' tk _ hk (hv _ (by rw [Array.length_toList, hacc.1]) fun j v e => hacc.2 j v (by rw [← Array.getElem?_toList]; exact e))
    · refine PySem.W.kdl_call (A := X.A) (PySem.KdlSrc.rawDict (ep := ep) lo) (I.ok.hd hc) raw hn fun h' tk acc c' hk he hacc => hQ h' tk acc c' hk he (hv _ (by rw [Array.length_toList, hacc.1]) fun j v e => hacc.2 j v (by rw [← Array.getElem?_toList]; exact e))
theorem each_vals {K : PySem.W.Frag} : ∀ {acc : List Value} {bs : List (V × D)}, PySem.W.EachIs (fun v (p : V × D) => L2.RelV p.1 v ∧ RV K ι H p.1 p.2) acc bs → Vals (bs.map (·.1)) acc ∧ RVs K ι H (bs.map (·.1)) (bs.map (·.2))
  | _, _, .nil => ⟨.nil, .nil⟩
  | _, _, .cons h hs => ⟨.cons h.1 (each_vals hs).1, .cons h.2 (each_vals hs).2⟩
theorem each_zip {K : PySem.W.Frag} : ∀ {acc : List Value} {xs : List V} {ds : List D}, Vals xs acc → RVs K ι H xs ds → PySem.W.EachIs (fun v (p : V × D) => L2.RelV p.1 v ∧ RV K ι H p.1 p.2) acc (xs.zip ds)
  | _, _, _, .nil, .nil => .nil
  | _, _, _, .cons h hs, .cons q qs => .cons ⟨h, q⟩ (each_zip hs qs)
theorem zip_snd {K : PySem.W.Frag} : ∀ {xs : List V} {ds : List D}, RVs K ι H xs ds → (xs.zip ds).map (·.2) = ds
  | _, _, .nil => rfl
  | _, _, .cons h hs => by simp [zip_snd hs]
theorem sortable_of {ds : List D} (h : sortOk ds = true) : PySem.W.Sortable (ds.map D.toPy) ∧ PySem.W.AllAlike (ds.map D.toPy) := by
  simp only [sortOk, Bool.and_eq_true] at h
  obtain ⟨h1, h2⟩ := h
  have h3 : ∀ a ∈ ds, ∀ b ∈ ds, alikeD a b = true := by simpa only [alikeAllD, List.all_eq_true] using h1
  refine ⟨?_, fun x hx y hy => ?_⟩
  · cases ds with
    | nil => exact .inl fun d hd => by simp at hd
    | cons d r =>
      by_cases ht : d.isTup = true
      · refine .inl fun e he => ?_
        obtain ⟨a, ha, rfl⟩ := List.mem_map.mp he
        have h4 := alike_of (h3 d (by simp) a ha)
        have h5 := List.all_eq_true.mp h2 a ha
        cases d <;> simp [D.isTup] at ht
        cases a <;> simp [D.toPy, PySem.W.alike] at h4
        rename_i xs
        cases xs with
        | nil => simp at h5
        | cons x xs => exact ⟨x.toPy, D.toPyL xs, by rw [D.toPy, D.toPyL]⟩
      · refine .inr fun e he => ?_
        obtain ⟨a, ha, rfl⟩ := List.mem_map.mp he
        have h4 := alike_of (h3 d (by simp) a ha)
        have h6 := alike_of (h3 a ha a ha)
        refine ⟨h6.2.2.2, fun xs e => ?_⟩
        cases d <;> simp [D.isTup] at ht <;> cases a <;> simp [D.toPy, PySem.W.alike] at h4 e
  · obtain ⟨a, ha, rfl⟩ := List.mem_map.mp hx
    obtain ⟨b, hb, rfl⟩ := List.mem_map.mp hy
    exact (alike_of (h3 a ha b hb)).2.2.1
theorem rvs_reads (I : Inv X pins σ H s) {h' : Heap} (k : ∀ b o, s.heap.get? b = some o → h'.get? b = some o) : ∀ {acc : List Value} {xs : List V} {ds : List D}, ds.all (D.dok 60) = true → Vals xs acc → RVs X.K ι H xs ds →
    PySem.W.EachIs (fun v (p : V × D) => ∃ as, Reads h' v p.2.toPy as) acc (xs.zip ds)
  | _, _, _, _, .nil, .nil => .nil
  | _, _, d :: ds, hd, .cons h hs, .cons q qs => by
    rw [List.all_cons, Bool.and_eq_true] at hd
    refine .cons ?_ (rvs_reads I k hd.2 hs qs)
    obtain ⟨as, r⟩ := Dp.reads I _ _ _ (rv_dp _ 60 hd.1 q) h
    exact ⟨as, PyProof.Rows.Reads.keeps k r⟩
theorem sorted_ok {a : Addr} {xs : List V} {ds : List D} (hu : X.A.units + 150 < cLine) (I : Inv X pins σ H s) (C : Coll X s (.ref a) xs) (hz : ds.length ≤ sizeLine) (hxs : RVs X.K ι H xs ds) (hk : sortOk ds = true) {Q : VK}
    (h : ∀ p ys, H p = none → RVs X.K ι H ys (ds.mergeSort leD) → Q (.ref p) (upd H p (.lst ys))) : wpAny (model X.prog X.w) X.A (call (.builtin "sorted") [.ref a]) (EP X pins σ Q) X.xe s := by
  refine Calls.call_function_entry PyProof.Rows.kind_sorted PyProof.Rows.plain_sorted PyProof.Rows.entry_sorted (PyProof.Rows.args_sorted1 _) ?_
  unfold Builtin.«sorted»
  refine wpAny_bind (m := checkCount "sorted" 1 1 _) (wpAny_pure ?_)
  refine wpAny_bind (C _ _ fun h' tk acc hkp hv => ?_)
  have hl : acc.length = ds.length := by rw [← hv.length, hxs.length]
  have I1 : Inv X pins σ H { s with heap := h', toks := tk } := I.kept hkp
  refine wpAny_bind (wpAny_newList ?_ (by omega))
  have hoL : (h'.push (seqObj "list" acc.toArray 0)).get? h'.objs.size = some (seqObj "list" acc.toArray 0) := Heap.get?_push_size _ rfl
  show wpAny _ _ _ _ _ { s with heap := h'.push (seqObj "list" acc.toArray 0), toks := tk }
  obtain ⟨hk1, hk2⟩ := sortable_of hk
  have hd := all_dok (show alikeAllD ds = true by simp only [sortOk, Bool.and_eq_true] at hk; exact hk.1)
  have k3 : ∀ b o, s.heap.get? b = some o → (PySem.W.sortingHeap (h'.push (seqObj "list" acc.toArray 0)) h'.objs.size acc).get? b = some o := fun b o e => by
    have e1 := hkp b o e
    exact PySem.W.sortingHeap_old (Nat.ne_of_lt (Heap.lt_size e1)) (Heap.get?_push_of_some _ e1)
  have er := rvs_reads I k3 hd hv hxs
  have e0 := each_zip hv hxs
  have hmap : (xs.zip ds).map (fun p : V × D => p.2.toPy) = ds.map D.toPy := by
    have := congrArg (List.map D.toPy) (zip_snd hxs)
    rw [List.map_map] at this
    exact this
  have hS : PySem.W.SortsAt X.prog X.w X.A.in1.in1 { s with heap := PySem.W.sortingHeap (h'.push (seqObj "list" acc.toArray 0)) h'.objs.size acc, toks := tk } (PySem.W.dataKind (PySem.W.sortingHeap (h'.push (seqObj "list" acc.toArray 0)) h'.objs.size acc) ((xs.zip ds).map fun p : V × D => p.2.toPy)) acc :=
    PySem.W.SortsAt.data (s := { s with heap := PySem.W.sortingHeap (h'.push (seqObj "list" acc.toArray 0)) h'.objs.size acc, toks := tk }) (PySem.W.each_map (R := fun v d => ∃ as, Reads (PySem.W.sortingHeap (h'.push (seqObj "list" acc.toArray 0)) h'.objs.size acc) v d as) (fun p : V × D => p.2.toPy) er) (by rw [hmap]; exact hk2) (by rw [hmap]; exact hk1) (fun d hm => by
      rw [hmap] at hm
      obtain ⟨b, hb, rfl⟩ := List.mem_map.mp hm
      have := toPy_depth _ _ (List.all_eq_true.mp hd b hb)
      show X.A.units + 1 + 1 + _ < _
      omega)
  refine wpAny_bind (wpAny_holding (wpAny_call_entry PyProof.Rows.slot_list_sort ⟨_, hoL, rfl⟩ PyProof.Rows.entry_list_sort
    (PySem.W.list_sort_vals (s := { s with heap := h'.push (seqObj "list" acc.toArray 0), toks := tk }) hoL hS (by omega) ⟨_, rfl, ?_⟩) (PyProof.Rows.args_list_sort _)))
  have eo := PySem.W.sortVals_data (R := fun v (p : V × D) => L2.RelV p.1 v ∧ RV X.K ι H p.1 p.2) false e0 er (by rw [hmap]; exact hk2)
  obtain ⟨ev, ed⟩ := each_vals eo
  have hs2 : ((xs.zip ds).mergeSort (PySem.W.dataLe false fun p : V × D => p.2.toPy)).map (·.2) = ds.mergeSort leD := by
    have := PySem.W.sort_maps (r := PySem.W.dataLe false fun p : V × D => p.2.toPy) (s := leD) (fun p : V × D => p.2) (l := xs.zip ds) (fun a _ b _ => rfl)
    rw [zip_snd hxs] at this
    first | exact this | exact this.symm
  rw [hs2] at ed
  have hp := I1.hok.fresh (Nat.le_refl h'.objs.size)
  obtain ⟨e', he'⟩ := PyProof.Rows.sortedHeap_at (vs := acc) (out := (PySem.W.sortVals (PySem.W.dataKind (PySem.W.sortingHeap (h'.push (seqObj "list" acc.toArray 0)) h'.objs.size acc) ((xs.zip ds).map fun p : V × D => p.2.toPy)) false acc acc).toArray) hoL
  refine wpAny_pure ⟨_, rfl, .ref h'.objs.size, upd H h'.objs.size (.lst _), I1.laid (t' := tk) (fun b u e => ?_) (Nat.le_refl _)
    (show ObjOk X.prog X.w _ _ _ (.lst _) from ⟨?_, _, e', ev, he'⟩), rfl, h _ _ hp ed⟩
  · have hb : b < h'.objs.size := Heap.lt_size e
    rw [PyProof.Rows.sortedHeap_old (Nat.ne_of_lt hb) (by rw [size_push']; exact Nat.lt_succ_of_lt hb)]
    exact Heap.get?_push_of_some _ e
  · rw [ed.length, List.length_mergeSort]; exact hz
theorem reads_all (I : Inv X pins σ H s) {ds : List D} {xs : List V} {its : List Value} (hd : ds.all (D.dok 60) = true) (h : RVs X.K ι H xs ds) (hv : Vals xs its) : ∃ as, ReadsAll s.heap its (D.toPyL ds) as :=
  Dp.readsAll I _ _ _ (rvs_dp _ 60 hd h) hv
theorem best_ok (I : Inv X pins σ H s) {ds : List D} {xs : List V} {its : List Value} {d : D} (hd : ds.all (D.dok 60) = true) (hm : d ∈ ds) (h : RVs X.K ι H xs ds) (hv : Vals xs its) {i : Nat} {v : Value} {h' : Heap} {bs : List Addr}
    (hi : its[i]? = some v) (k : ∀ b o, s.heap.get? b = some o → h'.get? b = some o) (r : Reads h' v d.toPy bs) : ∃ x, L2.RelV x v ∧ RV X.K ι H x d := by
  have hl := hv.length
  have hi1 : i < its.length := (List.getElem?_eq_some_iff.mp hi).1
  obtain ⟨x, hx⟩ : ∃ x, xs[i]? = some x := ⟨xs[i]'(by omega), List.getElem?_eq_getElem (by omega)⟩
  obtain ⟨u, hu, rx⟩ := hv.get hx
  rw [hi] at hu; cases hu
  obtain ⟨e, he, re⟩ := h.getV hx
  have hde := List.all_eq_true.mp hd e (List.mem_of_getElem? he)
  have hdd := List.all_eq_true.mp hd d hm
  obtain ⟨as, r1⟩ := Dp.reads I _ _ _ (rv_dp _ 60 hde re) rx
  have r2 := PyProof.Rows.Reads.keeps k r1
  have heq := SeqAt.plain_unique _ _ _ _ _ (toPy_plain _ _ hde) r2 r
  have := toPy_inj e 60 d 60 hde hdd heq
  subst this
  exact ⟨x, rx, re⟩
def Sb.val : Sb → Value
  | .tuple => .type "tuple" | .list => .type "list" | .sorted => .builtin "sorted" | .sortedR => .builtin "sorted" | .sum => .builtin "sum" | .all => .builtin "all" | .any => .builtin "any" | .min => .builtin "min" | .max => .builtin "max" | .set => .type "set" | .dict => .type "dict"
theorem seqR_ok {b : Sb} (hu : X.A.units + 150 < cLine) (hc : X.calm = true) (I : Inv X pins σ H s) (hr : HR X.prog X.w X.K ι G H) (rx : L2.RelV x v) (qx : RR X.prog X.w X.K H0 ι H x r) (h : PRes X XC W ι H QQ (seqR b r G)) :
    wpAny (model X.prog X.w) X.A (call b.val [v]) (EP X pins σ (QV QQ)) X.xe s := by
  have seqc : ∀ {ds : List D} {a : Addr} {xs : List V}, x = .ref a → (SqL X.K H a xs ∨ SqT X.K H a xs) → RVs X.K ι H xs ds → PRes X XC W ι H QQ (seqC b ds G) →
      wpAny (model X.prog X.w) X.A (call b.val [v]) (EP X pins σ (QV QQ)) X.xe s := by
    intro ds a xs ex hq hxs hp
    subst ex
    cases rx
    have hz : ds.length ≤ sizeLine := by
      rw [← hxs.length]
      rcases hq with hq | hq
      · exact (I.list hq).choose_spec.2.2
      · exact (I.tuple hq).choose_spec.2.2
    unfold seqC at hp
    split at hp
    · exact call_list_of pins s σ H [.ref a] _ _ I (.cons rfl .nil) ⟨a, xs, rfl, hq, fun p hn => ok_lst hr hp hxs hn⟩
    · split at hp
      · rename_i hk
        exact sorted_ok hu I (coll_seq I hq) hz hxs hk fun p ys hn hys => ok_lst hr hp hys hn
      · exact hp.elim
    · exact hp.elim
  have dctc : ∀ {a : Addr} {t : Bool} {kvs : List (D × D)}, x = .ref a → DctOk X.prog X.w X.K ι H a t kvs → PRes X XC W ι H QQ (seqC b (kvs.map (·.1)) G) →
      wpAny (model X.prog X.w) X.A (call b.val [v]) (EP X pins σ (QV QQ)) X.xe s := by
    intro a t kvs ex hd hp
    subst ex
    cases rx
    obtain ⟨xs, hxs, C, hL⟩ := coll_dct I hc hd
    have hz : (kvs.map (·.1)).length ≤ sizeLine := by
      rw [List.length_map]
      cases t with
      | false => obtain ⟨ks, h1, h2⟩ := hd; rw [← Paired.length h2]; exact (dk_of I.hok h1).1
      | true => obtain ⟨ks, h1, h3, h2⟩ := hd; exact Nat.le_trans h3 lim_line
    unfold seqC at hp
    split at hp
    · refine hL _ _ fun h' tk acc' c' hk he hv => ?_
      have hf := I.hok.fresh (Nat.le_refl s.heap.objs.size)
      exact ⟨.ref s.heap.objs.size, _, I.laid (t' := tk) hk (Nat.le_refl _) (show ObjOk X.prog X.w _ h' _ (.lst xs) from ⟨by rw [hxs.length]; exact hz, acc'.toList, c', hv, by rw [Array.toArray_toList]; exact he⟩), rfl, ok_lst hr hp hxs hf⟩
    · split at hp
      · rename_i hk
        exact sorted_ok hu I C hz hxs hk fun p ys hn hys => ok_lst hr hp hys hn
      · exact hp.elim
    · exact hp.elim
  have seqt : ∀ {ds : List D} {a : Addr} {xs : List V}, x = .ref a → (SqL X.K H a xs ∨ SqT X.K H a xs) → RVs X.K ι H xs ds → PRes X XC W ι H QQ (seqT b ds G) →
      wpAny (model X.prog X.w) X.A (call b.val [v]) (EP X pins σ (QV QQ)) X.xe s := by
    intro ds a xs ex hq hxs hp
    have ex' := ex
    unfold seqT at hp
    split at hp
    · subst ex
      rcases hq with hq | hq
      · exact call_tuple_of pins s σ H [.ref a] _ _ I (.cons rx .nil) ⟨a, xs, rfl, .inl ⟨hq, fun p hn => ok_tup hr hp hxs hn⟩⟩
      · exact call_tuple_of pins s σ H [.ref a] _ _ I (.cons rx .nil) ⟨a, xs, rfl, .inr ⟨hq, ok_val hr hp (.tup hq hxs)⟩⟩
    · split at hp
      · rename_i d rest
        split at hp
        · rename_i hk
          subst ex
          cases rx
          have hd := all_dok hk
          have hal := alikeAll_of hk
          have hdep : X.A.units + 1 + PyData.depthAll (d.toPy :: D.toPyL rest) < cLine := by
            have := toPyL_depth _ _ hd
            rw [D.toPyL] at this
            omega
          rcases hq with hq | hq
          · obtain ⟨its, rv, pl, hz⟩ := I.list hq
            obtain ⟨as, ra⟩ := reads_all I hd hxs rv
            refine PySem.W.min_list_data (vs := its.toArray) (I.ok.hd hc) pl.isList (by simpa [D.toPyL] using ra) (by simpa [D.toPyL] using hal) hdep fun i v h' tk bs hi rd k => ?_
            rw [← minD_toPy] at rd
            obtain ⟨z, rz, rvz⟩ := best_ok I hd (minD_mem rest d) hxs rv (by simpa using hi) k rd
            exact ⟨z, H, I.kept k, rz, ok_val hr hp rvz⟩
          · obtain ⟨its, rv, pl, hz⟩ := I.tuple hq
            obtain ⟨as, ra⟩ := reads_all I hd hxs rv
            refine PySem.W.min_tuple_data (vs := its.toArray) (I.ok.hd hc) (show s.heap.IsTuple a its.toArray from pl) (by simpa [D.toPyL] using ra) (by simpa [D.toPyL] using hal) hdep fun i v h' tk bs hi rd k => ?_
            rw [← minD_toPy] at rd
            obtain ⟨z, rz, rvz⟩ := best_ok I hd (minD_mem rest d) hxs rv (by simpa using hi) k rd
            exact ⟨z, H, I.kept k, rz, ok_val hr hp rvz⟩
        · exact hp.elim
      · exact hp.elim
    · split at hp
      · rename_i d rest
        split at hp
        · rename_i hk
          subst ex
          cases rx
          have hd := all_dok hk
          have hal := alikeAll_of hk
          have hdep : X.A.units + 1 + PyData.depthAll (d.toPy :: D.toPyL rest) < cLine := by
            have := toPyL_depth _ _ hd
            rw [D.toPyL] at this
            omega
          rcases hq with hq | hq
          · obtain ⟨its, rv, pl, hz⟩ := I.list hq
            obtain ⟨as, ra⟩ := reads_all I hd hxs rv
            refine PySem.W.max_list_data (vs := its.toArray) (I.ok.hd hc) pl.isList (by simpa [D.toPyL] using ra) (by simpa [D.toPyL] using hal) hdep fun i v h' tk bs hi rd k => ?_
            rw [← maxD_toPy] at rd
            obtain ⟨z, rz, rvz⟩ := best_ok I hd (maxD_mem rest d) hxs rv (by simpa using hi) k rd
            exact ⟨z, H, I.kept k, rz, ok_val hr hp rvz⟩
          · obtain ⟨its, rv, pl, hz⟩ := I.tuple hq
            obtain ⟨as, ra⟩ := reads_all I hd hxs rv
            refine PySem.W.max_tuple_data (vs := its.toArray) (I.ok.hd hc) (show s.heap.IsTuple a its.toArray from pl) (by simpa [D.toPyL] using ra) (by simpa [D.toPyL] using hal) hdep fun i v h' tk bs hi rd k => ?_
            rw [← maxD_toPy] at rd
            obtain ⟨z, rz, rvz⟩ := best_ok I hd (maxD_mem rest d) hxs rv (by simpa using hi) k rd
            exact ⟨z, H, I.kept k, rz, ok_val hr hp rvz⟩
        · exact hp.elim
      · exact hp.elim
    · exact seqc ex' hq hxs hp
  have seql : ∀ {ds : List D} {a : Addr} {xs : List V}, x = .ref a → SqL X.K H a xs → RVs X.K ι H xs ds → PRes X XC W ι H QQ (seqL b ds G) →
      wpAny (model X.prog X.w) X.A (call b.val [v]) (EP X pins σ (QV QQ)) X.xe s := by
    intro ds a xs ex hq hxs hp
    have ex' := ex
    unfold seqL at hp
    split at hp
    · split at hp
      · rename_i is e
        subst ex
        rw [ints_of e] at hxs
        rw [rvs_ints hxs] at hq
        exact cr_sum hc pins s σ H [.ref a] _ _ I (.cons rx .nil) ⟨a, is, rfl, hq, ok_val hr hp (.int _)⟩
      · exact hp.elim
    · split at hp
      · rename_i is e
        subst ex
        rw [bls_of e] at hxs
        rw [rvs_bls hxs] at hq
        exact cr_all hc pins s σ H [.ref a] _ _ I (.cons rx .nil) ⟨a, is, rfl, hq, ok_val hr hp (.bl _)⟩
      · exact hp.elim
    · split at hp
      · rename_i is e
        subst ex
        rw [bls_of e] at hxs
        rw [rvs_bls hxs] at hq
        exact cr_any hc pins s σ H [.ref a] _ _ I (.cons rx .nil) ⟨a, is, rfl, hq, ok_val hr hp (.bl _)⟩
      · exact hp.elim
    · exact seqt ex' (.inl hq) hxs hp
  unfold seqR at h
  split at h
  · obtain ⟨a, xs, e1, h1, h2⟩ := rv_tup qx
    exact seqt e1 (.inr h1) h2 h
  · cases qx with
    | frl h1 h2 => exact seql rfl h1.sql h2 h
  · obtain ⟨a, xs, e1, h1, h2, _⟩ := qx
    exact seql e1 (SqL.of h1) h2 h
  · cases qx with
    | ref hn =>
      split at h
      · rename_i hg
        obtain ⟨xs, h1, h2⟩ := hr.cell _ _ _ hg hn
        exact seql rfl (SqL.of h1) h2 h
      · rename_i hg
        exact dctc rfl (hr.cell _ _ _ hg hn) h
      · exact h.elim
  · obtain ⟨a, e1, h1, _⟩ := qx
    exact dctc e1 h1 h
  · exact h.elim
end
end LK

set_option Elab.async false
set_option linter.all false
set_option autoImplicit false
set_option maxRecDepth 100000
set_option maxHeartbeats 4000000
/-! LkMut: stores and methods of lists. -/
namespace LK
open PySem PySem.Spec PyProof.Rows L2

section
variable {P : Program} {w : World} {K : PySem.W.Frag} {ι : List Addr} {G : Hpp} {H : Hp}
theorem Fr2.write {a : Addr} {o : HO} (h : a ∈ ι) : Fr2 ι H ι (upd H a o) where
  pre := List.prefix_refl _
  fresh := fun n x hn e => by rw [List.getElem?_eq_none hn] at e; cases e
  ext := fun x u e hx => by rw [upd_ne (fun z : x = a => hx (by rw [z]; exact h))]; exact e
theorem HR.write (r : HR P w K ι G H) {n : Nat} {a : Addr} {c : Cell} {o : HO} (ha : ι[n]? = some a) (hc : CellOk P w K ι (upd H a o) a c) : HR P w K ι (G.set n c) (upd H a o) := by
  have hm : a ∈ ι := List.mem_iff_getElem?.mpr ⟨n, ha⟩
  refine ⟨by rw [List.length_set]; exact r.len, r.nd, fun m d x e1 e2 => ?_⟩
  by_cases hmn : n = m
  · subst hmn
    rw [ha] at e2; cases e2
    have hl : n < G.length := by rw [← r.len]; exact (List.getElem?_eq_some_iff.mp ha).1
    rw [List.getElem?_set_self hl] at e1
    cases e1
    exact hc
  · rw [List.getElem?_set_ne hmn] at e1
    have hx : x ≠ a := fun e => by
      subst e
      have h1 := (List.getElem?_eq_some_iff.mp ha).1
      exact hmn ((List.getElem?_inj h1 r.nd).mp (ha.trans e2.symm))
    exact (r.cell m d x e1 e2).go r (Fr2.write hm) fun u e => by rw [upd_ne hx]; exact e
theorem dictOb_obj {h : Heap} {a : Addr} {xs : List (NestedKey × Addr × Value)} (lo : (a == sysModules) = false) {o : Obj} {es : Array DictEntry} {ep : Nat} (h1 : h.get? a = some o) (h2 : o.ExactDict) (h3 : o.data = .dict es ep) (h4 : es.toList = xs.map (entryOfKey (nestedKind P w))) (h5 : (xs.map (·.1)).Nodup) {H' : Hp} :
    ObjOk P w H' h a (DictOb P w a xs) := by
  refine ⟨⟨lo, o, es, ep, h1, h2, h3, h4, h5⟩, ⟨o, h1⟩, fun g1 g2 ⟨q0, o', es', ep', q1, q⟩ k => ⟨q0, o', es', ep', k _ q1, q⟩⟩
end
section
variable {X : Cx} {pins : List (Addr × Obj)} {σ : L2.St} {s : Shared} {ι : List Addr} {G : Hpp} {H H0 H1 : Hp} {x y z : V} {v u : Value} {r q : R}
  {XC : Str → D → List Addr → Hp → Value → Option Addr → Prop} {W : Value → Option Addr → Hp → Prop} {QQ : R → List Addr → Hpp → Hp → V → Prop}
theorem put_k {k : Key} {d e : D} {z : V} (h : RV X.K ι H (kV k) d) (hz : RV X.K ι H z e) {ks : List (Key × V)} {kvs : List (D × D)} (hp : Paired (fun (q : Key × V) (p : D × D) => RV X.K ι H (kV q.1) p.1 ∧ RV X.K ι H q.2 p.2) ks kvs) :
    Paired (fun (q : Key × V) (p : D × D) => RV X.K ι H (kV q.1) p.1 ∧ RV X.K ι H q.2 p.2) (putK ks k z) (dput kvs d e) := by
  have any : (ks.any fun kv => decide (kv.1 = k)) = (dfind kvs d).isSome := by
    induction hp with
    | nil => rfl
    | @cons q p qs ps h1 hs ih =>
      have e := kV_dec h1.1 h
      rw [List.any_cons, e]
      by_cases hpd : p.1 = d
      · rw [dfind_pos hpd, decide_eq_true hpd]; rfl
      · rw [dfind_neg hpd, decide_eq_false hpd, ih]; rfl
  unfold putK dput
  rw [any]
  split
  · rename_i hany
    clear any hany
    induction hp with
    | nil => exact .nil
    | @cons q p qs ps h1 hs ih =>
      refine .cons ?_ ih
      have e := kV_dec h1.1 h
      by_cases hpd : p.1 = d
      · have hq : q.1 = k := of_decide_eq_true (by rw [e]; exact decide_eq_true hpd)
        dsimp only
        rw [if_pos hq, if_pos hpd]
        exact ⟨h1.1, hz⟩
      · have hq : ¬ q.1 = k := of_decide_eq_false (by rw [e]; exact decide_eq_false hpd)
        dsimp only
        rw [if_neg hq, if_neg hpd]
        exact h1
  · rename_i hany
    clear any hany
    induction hp with
    | nil => exact .cons ⟨h, hz⟩ .nil
    | cons h1 hs ih => exact .cons h1 ih
theorem put_t {d e : D} {b : Addr} {z : V} {zv : Value} (hk : D.kok 8 d = true) (ht : d.isTup = true) (h : RV X.K ι H (.ref b) d) (rz : L2.RelV z zv) (hz : RV X.K ι H z e) {xs : List (NestedKey × Addr × Value)} {kvs : List (D × D)} (hp : Paired (TP2 X ι H) xs kvs) :
    Paired (TP2 X ι H) (storedH xs (nk d) b zv) (dput kvs d e) := by
  have any := (find_t (X := X) (ι := ι) (H := H) hk hp).1
  unfold storedH dput
  rw [any]
  split
  · rename_i hany
    clear any hany
    induction hp with
    | nil => exact .nil
    | @cons x p qs ps h1 hs ih =>
      refine .cons ?_ ih
      obtain ⟨h1, h2, h3, h4, h5⟩ := h1
      unfold putAt
      by_cases hpd : p.1 = d
      · have hx : x.1 = nk d := by rw [h1, hpd]
        dsimp only
        rw [if_pos hpd, if_pos hx]
        exact ⟨h1, h2, h3, h4, z, rz, hz⟩
      · have hx : ¬ x.1 = nk d := fun e => hpd (nk_inj _ _ _ _ h2 hk (h1 ▸ e))
        dsimp only
        rw [if_neg hpd, if_neg hx]
        exact ⟨h1, h2, h3, h4, h5⟩
  · rename_i hany
    clear any hany
    induction hp with
    | nil => exact .cons ⟨rfl, hk, ht, h, z, rz, hz⟩ .nil
    | cons h1 hs ih => exact .cons h1 ih
theorem dput_len (kvs : List (D × D)) (k v : D) : (dput kvs k v).length ≤ kvs.length + 1 := by
  unfold dput
  split <;> simp
theorem TP2.go {ι' : List Addr} {H' : Hp} (hr : HR X.prog X.w X.K ι G H) (f : Fr2 ι H ι' H') {xs : List (NestedKey × Addr × Value)} {kvs : List (D × D)} (h : Paired (TP2 X ι H) xs kvs) : Paired (TP2 X ι' H') xs kvs :=
  L2.Paired.mapP h fun _ _ q => ⟨q.1, q.2.1, q.2.2.1, q.2.2.2.1.go hr f, let ⟨y, y1, y2⟩ := q.2.2.2.2; ⟨y, y1, y2.go hr f⟩⟩
/-- d[k] = e of a dict that is a cell, or a new one: what stands then -/
theorem setDict_ok {a : Addr} {t : Bool} {kvs : List (D × D)} {d e : D} (hu : X.A.units + 150 < cLine) (I : Inv X pins σ H s) (rx : L2.RelV x v) (qx : RV X.K ι H x d) (rz : L2.RelV z u) (qz : RV X.K ι H z e) (hd : DctOk X.prog X.w X.K ι H a t kvs) (hk : keyFor t d = true) (hl : kvs.length < LIM)
    {Q : Unit → Shared → Prop} (h : ∀ o s', Inv X pins σ (upd H a o) s' → (∀ ι' , (∀ {v : V} {d : D}, RV X.K ι H v d → RV X.K ι' (upd H a o) v d) → DctOk X.prog X.w X.K ι' (upd H a o) a t (dput kvs d e)) → Q () s') :
    wpAny (model X.prog X.w) X.A (setItem (.ref a) v u) Q X.xe s := by
  cases t with
  | false =>
    obtain ⟨ks, h1, h2⟩ := hd
    obtain ⟨k, rfl⟩ := key_of hk qx
    have hl2 : ks.length < sizeLine := by rw [Paired.length h2]; exact Nat.lt_of_lt_of_le hl lim_line
    refine d_setItem (by omega) I (DPut.k h1 hl2) rx rz fun s' I' => h _ s' I' fun ι' hm => ⟨_, upd_same, L2.Paired.mapP (put_k qx qz h2) fun _ _ q => ⟨hm q.1, hm q.2⟩⟩
  | true =>
    obtain ⟨xs, h1, h3, h2⟩ := hd
    obtain ⟨lo, hh⟩ := dictOb_at I h1 h2
    obtain ⟨b, rfl, rfl, hi, hk8⟩ := key_t hk I qx rx
    have ht : d.isTup = true := by simp only [keyFor, Bool.and_eq_true, beq_iff_eq] at hk; exact hk.2
    have hroom : (nestedKind X.prog X.w).room X.A.in1 := by show X.A.units + 1 + 8 < cLine; omega
    have hz : xs.length ≤ sizeLine := by rw [Paired.length h2]; exact Nat.le_trans (Nat.le_of_lt hl) lim_line
    refine wpAny_setItem_heap (hsz := hz) hroom hi hh fun h' dd' hs => ?_
    obtain ⟨o, es, ep, g1, g2, g3, g4, _, g5⟩ := dd'
    have I' : Inv X pins σ (upd H a (DictOb X.prog X.w a (storedH xs (nk d) b u))) { s with heap := h', toks := s.toks + (nestedKind X.prog X.w).draws (nk d) } :=
      d_write I (by rw [h1]; exact True.intro) hs ⟨o, g1⟩ (dictOb_obj lo g1 g2 g3 g4 g5)
    refine h _ _ I' fun ι' hm => ⟨_, upd_same, Nat.le_trans (dput_len _ _ _) hl, L2.Paired.mapP (put_t hk8 ht qx rz qz h2) fun _ _ q => ⟨q.1, q.2.1, q.2.2.1, hm q.2.2.2.1, let ⟨y, y1, y2⟩ := q.2.2.2.2; ⟨y, y1, hm y2⟩⟩⟩
theorem ixN_len {n : Nat} {i : Int} {j : Nat} (h : L2.ixN n i = some j) : j < n := (ixN_seq h).2.1
/-- o[i] = e -/
theorem setIR_ok {d : D} {G' : Hpp} (hu : X.A.units + 150 < cLine) (I : Inv X pins σ H s) (hr : HR X.prog X.w X.K ι G H) {xo xi : V} {vo vi : Value} (ro : L2.RelV xo vo) (ri : L2.RelV xi vi) (rz : L2.RelV z u) (qo : RR X.prog X.w X.K H0 ι H xo r) (qi : RR X.prog X.w X.K H1 ι H xi q) (qz : RV X.K ι H z d)
    (e : setIR r q d G = some G') {Q : Unit → Shared → Prop} (h : ∀ H' s', Inv X pins σ H' s' → Fr2 ι H ι H' → HR X.prog X.w X.K ι G' H' → Q () s') : wpAny (model X.prog X.w) X.A (setItem vo vi u) Q X.xe s := by
  unfold setIR at e
  split at e
  · cases qo with
    | ref hn =>
      have hm : _ ∈ ι := List.mem_iff_getElem?.mpr ⟨_, hn⟩
      split at e
      · rename_i t kvs hg
        split at e
        · rename_i hk
          cases e
          cases ro
          refine setDict_ok hu I ri qi rz qz (hr.cell _ _ _ hg hn) hk.1 hk.2 fun o s' I' hD => ?_
          exact h _ s' I' (Fr2.write hm) (hr.write hn (hD ι fun q => q.go hr (Fr2.write hm)))
        · cases e
      · rename_i ds hg
        obtain ⟨xs, h1, h2⟩ := hr.cell _ _ _ hg hn
        split at e
        · split at e
          · rename_i m hi
            cases e
            refine thn (set_list pins s σ H _ _ z vo vi u (fun H' => ∃ j, H' = upd H _ (.lst (xs.set j z)) ∧ j = m) I ro ri rz ⟨_, xs, _, m, rfl, rv_int qi, h1, by rw [h2.length]; exact hi, m, rfl, rfl⟩) fun _ s' ⟨H', I', j, e1, e2⟩ => ?_
            subst e1 e2
            exact h _ s' I' (Fr2.write hm) (hr.write hn ⟨_, upd_same, (h2.set qz _).go hr (Fr2.write hm)⟩)
          · cases e
        · cases e
      · cases e
  · cases e
theorem findIdx_py {d : D} (hd : D.dok 60 d = true) : ∀ {ds : List D}, ds.all (D.dok 60) = true → SeqAt.dataPlace (D.toPyL ds) d.toPy = ds.findIdx? fun z => D.eqv z d
  | [], _ => rfl
  | x :: xs, h => by
    rw [List.all_cons, Bool.and_eq_true] at h
    have ih := findIdx_py hd h.2
    unfold SeqAt.dataPlace at ih ⊢
    rw [D.toPyL, List.findIdx?_cons, List.findIdx?_cons, toPy_eqv x 60 h.1 d 60 hd, ih]
def M1.id : M1 → String
  | .append => "list.append" | .extend => "list.extend" | .remove => "list.remove" | .pop => "list.pop" | .index => "list.index" | .count => "list.count"
def M1.nm : M1 → Str
  | .append => "append" | .extend => "extend" | .remove => "remove" | .pop => "pop" | .index => "index" | .count => "count"
/-- a value is bound: a new list becomes a cell -/
theorem bindD (hr : HR X.prog X.w X.K ι G H) (h : RR X.prog X.w X.K H0 ι H x r) : ∃ d G1 ι', toD r G = .ok d G1 ∧ HR X.prog X.w X.K ι' G1 H ∧ RV X.K ι' H x d ∧ ι <+: ι' ∧ (∀ n a, ι.length ≤ n → ι'[n]? = some a → H0 a = none) ∧ (∀ {v : V} {d : D}, RV X.K ι H v d → RV X.K ι' H v d) ∧ (∀ {n : Nat} {c : Cell}, G[n]? = some c → G1[n]? = some c) ∧ (∀ a ∈ ι', a ∈ ι ∨ H0 a = none) := by
  have new : ∀ {a : Addr} {c : Cell}, CellOk X.prog X.w X.K ι H a c → H0 a = none → a ∉ ι → HR X.prog X.w X.K (ι ++ [a]) (G ++ [c]) H ∧ RV X.K (ι ++ [a]) H (.ref a) (.ref G.length) ∧ (∀ n b, ι.length ≤ n → (ι ++ [a])[n]? = some b → H0 b = none) := by
    intro a c hc h0 ha
    refine ⟨hr.push ha (hc.up a), .ref ?_, fun n b hn e => ?_⟩
    · rw [← hr.len]; simp
    · rw [List.getElem?_append_right hn] at e
      have h1 : n - ι.length = 0 := by
        cases q : n - ι.length with
        | zero => rfl
        | succ k => rw [q] at e; simp at e
      rw [h1] at e
      simp at e
      subst e
      exact h0
  have app : ∀ {c : Cell} {n : Nat} {d : Cell}, G[n]? = some d → (G ++ [c])[n]? = some d := fun {c n d} e => by
    rw [List.getElem?_append_left (List.getElem?_eq_some_iff.mp e).1]; exact e
  cases r with
  | val d => exact ⟨d, G, ι, rfl, hr, h, List.prefix_refl _, fun n a hn e => (by rw [List.getElem?_eq_none hn] at e; cases e), fun q => q, fun e => e, fun a h => .inl h⟩
  | newL ds =>
    obtain ⟨a, xs, rfl, h1, h2, h3, h4⟩ := h
    obtain ⟨n1, n2, n3⟩ := new (c := .lst ds) ⟨xs, h1, h2⟩ h3 h4
    exact ⟨_, _, _, rfl, n1, n2, List.prefix_append _ _, n3, fun q => q.up a, app, fun b hb => (List.mem_append.mp hb).imp_right fun z => by simp at z; subst z; exact h3⟩
  | newD t kvs =>
    obtain ⟨a, rfl, h1, h3, h4⟩ := h
    obtain ⟨n1, n2, n3⟩ := new (c := .dct t kvs) h1 h3 h4
    exact ⟨_, _, _, rfl, n1, n2, List.prefix_append _ _, n3, fun q => q.up a, app, fun b hb => (List.mem_append.mp hb).imp_right fun z => by simp at z; subst z; exact h3⟩
  | newS ds => exact h.elim
theorem Fr2.bound {ι1 : List Addr} {H1 : Hp} {ι' : List Addr} (f : Fr2 ι1 H1 ι H) (p : ι <+: ι') (hf : ∀ n a, ι.length ≤ n → ι'[n]? = some a → H1 a = none) : Fr2 ι1 H1 ι' H where
  pre := f.pre.trans p
  fresh := fun n a hn e => by
    by_cases h : n < ι.length
    · obtain ⟨t, rfl⟩ := p
      rw [List.getElem?_append_left h] at e
      exact f.fresh n a hn e
    · exact hf n a (Nat.le_of_not_lt h) e
  ext := f.ext
theorem Fr2.wrote {ι1 : List Addr} {H1 : Hp} (hr : HR X.prog X.w X.K ι G H) (f : Fr2 ι1 H1 ι H) {a : Addr} {o : HO} (h : a ∈ ι) : Fr2 ι1 H1 ι (upd H a o) := f.trans hr (Fr2.write h)
/-- o.m(a): ι1, H1 ahead of a's reading -/
theorem meth1_ok {m : M1} {ι1 : List Addr} {H1 : Hp} (hu : X.A.units + 150 < cLine) (I : Inv X pins σ H s) (hr : HR X.prog X.w X.K ι G H) (f : Fr2 ι1 H1 ι H) {xo xi : V} {vo vi : Value} (ro : L2.RelV xo vo) (ri : L2.RelV xi vi) (qo : RR X.prog X.w X.K H0 ι H xo r) (qi : RR X.prog X.w X.K H1 ι H xi q)
    (h : PRes X XC W ι1 H1 QQ (meth1R m r q G)) : wpAny (model X.prog X.w) X.A (call (.builtin m.id) [vo, vi]) (EP X pins σ (QV QQ)) X.xe s := by
  unfold meth1R at h
  split at h
  · -- append
    cases qo with
    | ref hn =>
      split at h
      · rename_i ds hg
        split at h
        · rename_i hl
          obtain ⟨d, G1, ι', e1, r1, q1, p1, f1, up, hG, _⟩ := bindD hr qi
          rw [e1] at h
          have h : PRes X XC W ι1 H1 QQ (.ok (.val .non) (G1.set _ (.lst (ds ++ [d])))) := h
          obtain ⟨xs, h1, h2⟩ := hr.cell _ _ _ hg hn
          have hn' := pre_get p1 hn
          have hm : _ ∈ ι' := List.mem_iff_getElem?.mpr ⟨_, hn'⟩
          refine mt_append pins s σ H _ [xi] vo [vi] _ I ro (.cons ri .nil) ⟨_, xs, xi, rfl, rfl, h1, by rw [h2.length]; exact Nat.lt_of_lt_of_le hl lim_line, _, ι', _, h ι' _ .non ((f.bound p1 f1).wrote r1 hm) (r1.write hn' ⟨_, upd_same, ?_⟩) .non⟩
          have h2' : RVs X.K ι' H xs ds := by
            have := (r1.cell _ _ _ (hG hg) hn')
            obtain ⟨xs', g1, g2⟩ := this
            rw [h1] at g1; cases g1
            exact g2
          exact (h2'.append (.cons q1 .nil)).go r1 (Fr2.write hm)
        · exact h.elim
      · exact h.elim
  · -- extend
    cases qo with
    | ref hn =>
      split at h
      · rename_i ds es hg he
        split at h
        · rename_i hl
          obtain ⟨xs, h1, h2⟩ := hr.cell _ _ _ hg hn
          obtain ⟨b, ys, rfl, h3, h4⟩ := rr_lstM hr qi he
          have hm : _ ∈ ι := List.mem_iff_getElem?.mpr ⟨_, hn⟩
          exact mt_extend pins s σ H _ _ vo [vi] _ I ro (.cons ri .nil) ⟨_, b, xs, ys, rfl, rfl, h1, h3, by rw [h2.length, h4.length]; exact Nat.le_trans hl lim_line, _, ι, _, h ι _ .non (f.wrote hr hm) (hr.write hn ⟨_, upd_same, (h2.append h4).go hr (Fr2.write hm)⟩) .non⟩
        · exact h.elim
      · exact h.elim
  · -- remove
    cases qo with
    | ref hn =>
      split at h
      · rename_i ds d hg
        split at h
        · rename_i hk
          split at h
          · rename_i j hj
            rw [Bool.and_eq_true] at hk
            obtain ⟨xs, h1, h2⟩ := hr.cell _ _ _ hg hn
            have hm : _ ∈ ι := List.mem_iff_getElem?.mpr ⟨_, hn⟩
            cases ro
            obtain ⟨z, its, n, rv, hlen, e⟩ := I.lstM h1
            obtain ⟨as, ra⟩ := reads_all I hk.2 h2 rv
            obtain ⟨bs, rb⟩ := Dp.reads I _ _ _ (rv_dp _ 60 hk.1 qi) ri
            have hroom : X.A.units + 1 + min (PyData.depthAll (D.toPyL ds)) d.toPy.depth < cLine := by
              have h5 := toPyL_depth _ _ hk.2
              have h6 := Nat.min_le_left (PyData.depthAll (D.toPyL ds)) d.toPy.depth
              omega
            refine SeqAt.remove_list_data (vs := its.toArray) ⟨_, e, rfl, _, rfl⟩ (by simpa using ra) rb (toPyL_plain _ _ hk.2) (toPy_plain _ _ hk.1) hroom (by rw [findIdx_py hk.1 hk.2]; exact hj) (by rw [List.size_toArray]; omega) ?_
            refine ⟨.non, _, I.lset (its' := its.eraseIdx j) h1 e ?_ (rv.eraseIdx j) ?_, rfl, _, ι, _, h ι _ .non (f.wrote hr hm) (hr.write hn ⟨_, upd_same, (h2.erase j).go hr (Fr2.write hm)⟩) .non⟩
            · rw [List.eraseIdxIfInBounds_toArray]
            · have := len_erase xs j
              omega
          · exact h.elim
        · exact h.elim
      · exact h.elim
  · -- pop(i)
    cases qo with
    | ref hn =>
      split at h
      · rename_i ds i hg
        split at h
        · rename_i j hj
          split at h
          · rename_i d hd
            obtain ⟨xs, h1, h2⟩ := hr.cell _ _ _ hg hn
            have hm : _ ∈ ι := List.mem_iff_getElem?.mpr ⟨_, hn⟩
            obtain ⟨y, hy, ry⟩ := h2.get hd
            obtain ⟨s1, s2, s3, s4⟩ := ixN_seq hj
            have hz := (I.lstM h1).1
            rw [h2.length] at hz
            have hn63 := line63
            exact mt_popAt pins s σ H _ _ vo [vi] _ I ro (.cons ri .nil) ⟨_, xs, i, j, y, rfl, by rw [rv_int qi], h1, by omega, by omega, by rw [h2.length]; exact s1, hy, _, ι, _, h ι _ y (f.wrote hr hm) (hr.write hn ⟨_, upd_same, (h2.erase j).go hr (Fr2.write hm)⟩) (ry.go hr (Fr2.write hm))⟩
          · exact h.elim
        · exact h.elim
      · exact h.elim
  · exact h.elim
def M0.id : M0 → String
  | .pop => "list.pop"
def M0.nm : M0 → Str
  | .pop => "pop"
theorem meth0_ok {m : M0} {ι1 : List Addr} {H1 : Hp} (I : Inv X pins σ H s) (hr : HR X.prog X.w X.K ι G H) (f : Fr2 ι1 H1 ι H) {xo : V} {vo : Value} (ro : L2.RelV xo vo) (qo : RR X.prog X.w X.K H0 ι H xo r)
    (h : PRes X XC W ι1 H1 QQ (meth0R m r G)) : wpAny (model X.prog X.w) X.A (call (.builtin m.id) [vo]) (EP X pins σ (QV QQ)) X.xe s := by
  unfold meth0R at h
  split at h
  · cases qo with
    | ref hn =>
      split at h
      · rename_i ds hg
        split at h
        · rename_i d hd
          obtain ⟨xs, h1, h2⟩ := hr.cell _ _ _ hg hn
          have hm : _ ∈ ι := List.mem_iff_getElem?.mpr ⟨_, hn⟩
          have hd' : ds[ds.length - 1]? = some d := by rw [List.getLast?_eq_getElem?] at hd; exact hd
          obtain ⟨y, hy, ry⟩ := h2.get hd'
          have e : xs.dropLast = xs.eraseIdx (xs.length - 1) := by rw [List.dropLast_eq_take, List.eraseIdx_eq_take_drop_succ]; simp; omega
          have e2 : ds.dropLast = ds.eraseIdx (ds.length - 1) := by rw [List.dropLast_eq_take, List.eraseIdx_eq_take_drop_succ]; simp; omega
          refine mt_pop pins s σ H _ _ vo [] _ I ro .nil ⟨_, xs, y, rfl, rfl, h1, by rw [h2.length]; exact hy, _, ι, _, h ι _ y (f.wrote hr hm) (hr.write hn ⟨_, upd_same, ?_⟩) (ry.go hr (Fr2.write hm))⟩
          rw [e, e2, h2.length]
          exact (h2.erase _).go hr (Fr2.write hm)
        · exact h.elim
      · exact h.elim
  · exact h.elim
end
end LK

set_option Elab.async false
set_option linter.all false
set_option autoImplicit false
set_option maxRecDepth 100000
set_option maxHeartbeats 4000000
/-! LkExpr: expressions, as HandS's judgements. -/
namespace LK
open PySem PySem.Spec PyProof.Rows L2

abbrev XCT := Str → D → List Addr → Hp → Value → Option Addr → Prop
abbrev WT := Value → Option Addr → Hp → Prop
section
variable (X : Cx) (XC : XCT) (W : WT)
/-- the wish of a piece of code, by its function in the language -/
def tX {α β : Type} (Rel : Hp → List Addr → Hp → β → α → Prop) (f : Env → Hpp → Res α) : L2.St → Hp → (β → Hp → Prop) → Prop := fun σ H Q =>
  ∃ ι ρ G, HR X.prog X.w X.K ι G H ∧ ER X.K ι H σ ρ ∧ Post X.prog X.w X.K Rel XC W ι H (fun _ _ _ H' v => Q v H') (f ρ G)
abbrev tR (f : Env → Hpp → Res R) : TE := tX X XC W (RR X.prog X.w X.K) f
def RelD (K : PySem.W.Frag) : Hp → List Addr → Hp → V → D → Prop := fun _ ι H v d => RV K ι H v d
def RelL (K : PySem.W.Frag) : Hp → List Addr → Hp → List V → List D → Prop := fun _ ι H v d => RVs K ι H v d
def RelB : Hp → List Addr → Hp → Bool → Bool → Prop := fun _ _ _ b c => b = c
def asB : R → Hpp → Res Bool
  | .val (.bl b), G => .ok b G
  | _, _ => .bad
abbrev tT (f : Env → Hpp → Res R) : TT := tX X XC W RelB fun ρ G => (f ρ G).bind asB
abbrev tA (f : Env → Hpp → Res (List D)) : TA := tX X XC W (RelL X.K) f
end
section
variable {X : Cx} {XC : XCT} {W : WT} {α β γ δ : Type} {Rel : Hp → List Addr → Hp → β → α → Prop} {Rel2 : Hp → List Addr → Hp → δ → γ → Prop}
  {pins : List (Addr × Obj)} {σ : L2.St} {s : Shared} {ι : List Addr} {ρ : Env} {G : Hpp} {H : Hp}
/-- behind one piece, ahead of the next -/
def Nxt (X : Cx) (XC : XCT) (W : WT) (Rel : Hp → List Addr → Hp → β → α → Prop) (Rel2 : Hp → List Addr → Hp → δ → γ → Prop) (σ : L2.St) (ρ : Env) (ι : List Addr) (H : Hp) (QQ : γ → List Addr → Hpp → Hp → δ → Prop) (k : α → Hpp → Res γ) (v : β) (H1 : Hp) : Prop :=
  ∃ a ι1 G1, Fr2 ι H ι1 H1 ∧ HR X.prog X.w X.K ι1 G1 H1 ∧ ER X.K ι1 H1 σ ρ ∧ Rel H ι1 H1 v a ∧ Post X.prog X.w X.K Rel2 XC W ι H QQ (k a G1)
theorem step {f : Env → Hpp → Res α} {QQ : γ → List Addr → Hpp → Hp → δ → Prop} {k : α → Hpp → Res γ} (hr : HR X.prog X.w X.K ι G H) (er : ER X.K ι H σ ρ) (h : Post X.prog X.w X.K Rel2 XC W ι H QQ ((f ρ G).bind k)) :
    tX X XC W Rel f σ H (Nxt X XC W Rel Rel2 σ ρ ι H QQ k) :=
  ⟨ι, ρ, G, hr, er, (Post.bind h).imp fun a ι1 G1 H1 v q => ⟨a, ι1, G1, q.1, q.2.1, er.go hr q.1, q.2.2.1, q.2.2.2⟩⟩
theorem step2 {f : Env → Hpp → Res α} {QQ : γ → List Addr → Hpp → Hp → δ → Prop} {k : α → Hpp → Res γ} {ι1 : List Addr} {G1 : Hpp} {H1 : Hp} (fr : Fr2 ι H ι1 H1) (hr : HR X.prog X.w X.K ι1 G1 H1) (er : ER X.K ι1 H1 σ ρ)
    (hb : ∀ ι2 H2 v a, Rel2 H1 ι2 H2 v a → Rel2 H ι2 H2 v a) (h : Post X.prog X.w X.K Rel2 XC W ι H QQ ((f ρ G1).bind k)) : tX X XC W Rel f σ H1 (Nxt X XC W Rel Rel2 σ ρ ι1 H1 QQ k) :=
  step hr er (h.shift hr fr hb)
theorem backR {ι1 : List Addr} {G1 : Hpp} {H1 : Hp} (fr : Fr2 ι H ι1 H1) (hr : HR X.prog X.w X.K ι1 G1 H1) : ∀ ι2 H2 v a, RR X.prog X.w X.K H1 ι2 H2 v a → RR X.prog X.w X.K H ι2 H2 v a := fun _ _ _ _ q => q.back hr fr
theorem ep_of {Q : VK} {u : Value} {s' : Shared} (h : EP X pins σ (QV fun _ _ _ H' v => Q v H') u s') : EP X pins σ Q u s' := by
  obtain ⟨v, H', I, r, _, _, _, q⟩ := h
  exact ⟨v, H', I, r, q⟩
theorem ep_qv {QQ : R → List Addr → Hpp → Hp → V → Prop} {Q : VK} (hq : ∀ r ι G H v, QQ r ι G H v → Q v H) {u : Value} {s' : Shared} (h : EP X pins σ (QV QQ) u s') : EP X pins σ Q u s' := by
  obtain ⟨v, H', I, r, _, _, _, q⟩ := h
  exact ⟨v, H', I, r, hq _ _ _ _ _ q⟩
variable {a b c : Expr} {fa fb fc : Env → Hpp → Res R} {pos : Pos}
theorem PE.imp {e : Expr} {t t' : TE} (h : PE X e t) (hi : ∀ σ H Q, t' σ H Q → t σ H Q) : PE X e t' := ⟨fun pins s σ H Q I q => h.run pins s σ H Q I (hi σ H Q q)⟩
theorem tR_ok {d : D} {v : V} {Q : VK} (h : tR X XC W (fun _ G => okV d G) σ H Q) (hv : ∀ ι, RV X.K ι H v d) : Q v H := by
  obtain ⟨ι, ρ, G, hr, er, h⟩ := h
  exact h ι H v .refl hr (hv ι)
theorem x_int {i : Int} {k pos} : PE X (.Constant (.int i) k pos) (tR X XC W fun _ G => okV (.int i) G) := PE.imp pe_int fun _ _ _ h => tR_ok h fun _ => .int i
theorem x_bl {i : Bool} {k pos} : PE X (.Constant (.bool i) k pos) (tR X XC W fun _ G => okV (.bl i) G) := PE.imp pe_bl fun _ _ _ h => tR_ok h fun _ => .bl i
theorem x_non {k pos} : PE X (.Constant .none k pos) (tR X XC W fun _ G => okV .non G) := PE.imp pe_non fun _ _ _ h => tR_ok h fun _ => .non
theorem x_str {z : Str} {k pos} : PE X (.Constant (.str z) k pos) (tR X XC W fun _ G => okV (.str z) G) := PE.imp pe_str fun _ _ _ h => tR_ok h fun _ => .str z
theorem x_var {i : Nat} {x : Str} (hN : X.N[i]? = some x) (hv : Vis X.env.scope x) (hd : (x == ("__debug__" : Str)) = false) (hcd : (x == ("__classdict__" : Str)) = false) :
    PE X (.Name x pos) (tR X XC W fun ρ G => match ρ[i]? with
      | some (some d) => okV d G
      | _ => .bad) := PE.imp (pe_var hN hv hd hcd) fun σ H Q h => by
  obtain ⟨ι, ρ, G, hr, er, h⟩ := h
  dsimp only at h
  split at h
  · rename_i d e
    obtain ⟨v, e1, r1⟩ := er.2 i d e
    exact ⟨v, e1, h ι H v .refl hr r1⟩
  · exact h.elim
theorem x_glob {x : Str} {d : D} {v : V} {u : Value} (hg : Gl X x) (hm : X.mg x = some u) (r : L2.RelV v u) (hd : (x == ("__debug__" : Str)) = false) (hv : ∀ ι H, RV X.K ι H v d) : PE X (.Name x pos) (tR X XC W fun _ G => okV d G) :=
  PE.imp (pe_glob hg hm r hd) fun _ H _ h => tR_ok h fun ι => hv ι H
/-! ### operators -/
variable (hu : X.A.units + 150 < cLine)
include hu
theorem x_bin {op : Bop} (ha : PE X a (tR X XC W fa)) (hb : PE X b (tR X XC W fb)) : PE X (.BinOp a op.op b pos) (tR X XC W fun ρ G => (fa ρ G).bind fun x G1 => (fb ρ G1).bind fun y G2 => binR op x y G2) := by
  refine ⟨fun pins s σ H Q I ⟨ι, ρ, G, hr, er, h⟩ => ?_⟩
  refine wpAny_BinOp (thn (ha.run pins s σ H _ I (step hr er h)) fun v s1 ⟨x, H1, I1, r1, p, ι1, G1, f1, hr1, er1, q1, h1⟩ =>
    thn (hb.run pins s1 σ H1 _ I1 (step2 f1 hr1 er1 (backR f1 hr1) h1)) fun u s2 ⟨y, H2, I2, r2, q, ι2, G2, f2, hr2, er2, q2, h2⟩ => ?_)
  exact thn (bin_ok I2 hr2 r1 r2 (q1.go hr1 f2) q2 (h2.shift hr2 f2 (backR f2 hr2))) fun _ _ e => ep_of e
theorem x_neg (ha : PE X a (tR X XC W fa)) : PE X (.UnaryOp .USub a pos) (tR X XC W fun ρ G => (fa ρ G).bind fun x G1 => match x with
    | .val (.int i) => okV (.int (-i)) G1
    | _ => .bad) := by
  refine ⟨fun pins s σ H Q I ⟨ι, ρ, G, hr, er, h⟩ => ?_⟩
  refine UnaryOp_ (thn (ha.run pins s σ H _ I (step hr er h)) fun v s1 ⟨x, H1, I1, r1, p, ι1, G1, f1, hr1, er1, q1, h1⟩ => ?_)
  dsimp only at h1
  split at h1
  · cases rv_int q1
    exact un_neg pins s1 σ H1 _ v Q I1 r1 ⟨_, rfl, h1 ι1 H1 _ f1 hr1 (.int _)⟩
  · exact h1.elim
theorem x_cmp {op : Cop} (hm : behindInMarks op.op b = false) (ha : PE X a (tR X XC W fa)) (hb : PE X b (tR X XC W fb)) : PE X (.Compare a [op.op] [b] pos) (tR X XC W fun ρ G => (fa ρ G).bind fun x G1 => (fb ρ G1).bind fun y G2 => optB (cmpR op x y G2) G2) := by
  refine ⟨fun pins s σ H Q I ⟨ι, ρ, G, hr, er, h⟩ => ?_⟩
  refine wpAny_Compare1 (thn (ha.run pins s σ H _ I (step hr er h)) fun v s1 ⟨x, H1, I1, r1, p, ι1, G1, f1, hr1, er1, q1, h1⟩ =>
    thn (hb.run pins s1 σ H1 _ I1 (step2 f1 hr1 er1 (backR f1 hr1) h1)) fun u s2 ⟨y, H2, I2, r2, q, ι2, G2, f2, hr2, er2, q2, h2⟩ => ?_) hm
  dsimp only at h2
  cases e : cmpR op p q G2 with
  | none => rw [e] at h2; exact h2.elim
  | some k =>
    rw [e] at h2
    exact cmp_ok hu I2 hr2 r1 r2 (q1.go hr1 f2) q2 e (h2 ι2 H2 (.bl k) f2 hr2 (.bl k))
theorem t_cmp {op : Cop} (hm : behindInMarks op.op b = false) (ha : PE X a (tR X XC W fa)) (hb : PE X b (tR X XC W fb)) : PT X (.Compare a [op.op] [b] pos) (tT X XC W fun ρ G => (fa ρ G).bind fun x G1 => (fb ρ G1).bind fun y G2 => optB (cmpR op x y G2) G2) := by
  refine ⟨fun pins s σ H Q I ⟨ι, ρ, G, hr, er, h⟩ => ?_⟩
  have h' : Post X.prog X.w X.K RelB XC W ι H (fun _ _ _ H' v => Q v H') ((fa ρ G).bind fun x G1 => (fb ρ G1).bind fun y G2 => (optB (cmpR op x y G2) G2).bind asB) := by
    cases e1 : fa ρ G with
    | ok x G1 =>
      simp only [e1, Res.bind] at h ⊢
      cases e2 : fb ρ G1 <;> simp only [e2] at h ⊢ <;> exact h
    | ex _ _ _ => simp only [e1, Res.bind] at h ⊢; exact h
    | bad => simp only [e1, Res.bind] at h ⊢; exact h
  refine wpAny_isTrue_Compare1 (thn (ha.run pins s σ H _ I (step hr er h')) fun v s1 ⟨x, H1, I1, r1, p, ι1, G1, f1, hr1, er1, q1, h1⟩ =>
    thn (hb.run pins s1 σ H1 _ I1 (step2 f1 hr1 er1 (fun _ _ _ _ q => q) h1)) fun u s2 ⟨y, H2, I2, r2, q, ι2, G2, f2, hr2, er2, q2, h2⟩ => ?_) hm
  dsimp only at h2
  cases e : cmpR op p q G2 with
  | none => rw [e] at h2; exact h2.elim
  | some k =>
    rw [e] at h2
    refine thn (cmp_ok (Q := fun v H' => v = .bl k ∧ H' = H2) hu I2 hr2 r1 r2 (q1.go hr1 f2) q2 e ⟨rfl, rfl⟩) fun c s3 ⟨z, H3, I3, r3, e1, e2⟩ => ?_
    subst e1 e2
    cases r3
    exact wpAny_truthy_bool ⟨H3, I3, h2 ι2 H3 k f2 hr2 rfl⟩
theorem x_chain {o p : Cop} (hm : lastMarks [o.op, p.op] [b, c] = false) (ha : PE X a (tR X XC W fa)) (hb : PE X b (tR X XC W fb)) (hc : PE X c (tR X XC W fc)) : PE X (.Compare a [o.op, p.op] [b, c] pos)
    (tR X XC W fun ρ G => (fa ρ G).bind fun x G1 => (fb ρ G1).bind fun y G2 => match cmpR o x y G2 with
    | some true => (fc ρ G2).bind fun z G3 => optB (cmpR p y z G3) G3
    | some false => okV (.bl false) G2
    | none => .bad) := by
  refine ⟨fun pins s σ H Q I ⟨ι, ρ, G, hr, er, h⟩ => ?_⟩
  refine Compare_chain (thn (ha.run pins s σ H _ I (step hr er h)) fun v s1 ⟨x, H1, I1, r1, rx, ι1, G1, f1, hr1, er1, q1, h1⟩ => chain_link (
    thn (hb.run pins s1 σ H1 _ I1 (step2 f1 hr1 er1 (backR f1 hr1) h1)) fun u s2 ⟨y, H2, I2, r2, ry, ι2, G2, f2, hr2, er2, q2, h2⟩ => ?_)) hm
  dsimp only at h2
  split at h2
  · rename_i e
    refine thn (cmp_ok (Q := fun v H' => v = .bl true ∧ H' = H2) hu I2 hr2 r1 r2 (q1.go hr1 f2) q2 e ⟨rfl, rfl⟩) fun d s3 ⟨z, H3, I3, r3, e1, e2⟩ => ?_
    subst e1 e2
    cases r3
    refine wpAny_truthy_bool (ite_tt (chain_last (thn (hc.run pins s3 σ H3 _ I3 (step2 f2 hr2 er2 (backR f2 hr2) h2)) fun w' s4 ⟨z', H4, I4, r4, rz, ι4, G4, f4, hr4, er4, q4, h4⟩ => ?_)))
    dsimp only at h4
    cases e : cmpR p ry rz G4 with
    | none => rw [e] at h4; exact h4.elim
    | some k =>
      rw [e] at h4
      exact cmp_ok hu I4 hr4 r2 r4 (q2.go hr2 f4) q4 e (h4 ι4 H4 (.bl k) f4 hr4 (.bl k))
  · rename_i e
    refine thn (cmp_ok (Q := fun v H' => v = .bl false ∧ H' = H2) hu I2 hr2 r1 r2 (q1.go hr1 f2) q2 e ⟨rfl, rfl⟩) fun d s3 ⟨z, H3, I3, r3, e1, e2⟩ => ?_
    subst e1 e2
    cases r3
    exact wpAny_truthy_bool (ite_ff ⟨.bl false, H3, I3, rfl, h2 ι2 H3 _ f2 hr2 (.bl false)⟩)
  · exact h2.elim
omit hu
/-- the value of a bool, as a test -/
theorem t_val {e : Expr} {f : Env → Hpp → Res R} (h : PE X e (tR X XC W f)) (he : ∀ whole, isTrue e X.env whole = (do let v ← whole; standAt e.pos; holding [v] (truthy v))) : PT X e (tT X XC W f) := by
  refine ⟨fun pins s σ H Q I ⟨ι, ρ, G, hr, er, hq⟩ => ?_⟩
  refine isTrue_plain (thn (h.run pins s σ H _ I (step hr er hq)) fun v s1 ⟨x, H1, I1, r1, p, ι1, G1, f1, hr1, er1, q1, h1⟩ => ?_) (he _)
  unfold asB at h1
  split at h1
  · cases rv_bl q1
    cases r1
    exact wpAny_truthy_bool ⟨H1, I1, h1 ι1 H1 _ f1 hr1 rfl⟩
  · exact h1.elim
def andF (fa fb : Env → Hpp → Res R) (ρ : Env) (G : Hpp) : Res R := (fa ρ G).bind fun x G1 => match x with
  | .val (.bl true) => fb ρ G1
  | .val (.bl false) => okV (.bl false) G1
  | _ => .bad
def orF (fa fb : Env → Hpp → Res R) (ρ : Env) (G : Hpp) : Res R := (fa ρ G).bind fun x G1 => match x with
  | .val (.bl true) => okV (.bl true) G1
  | .val (.bl false) => fb ρ G1
  | _ => .bad
def notF (fa : Env → Hpp → Res R) (ρ : Env) (G : Hpp) : Res R := (fa ρ G).bind fun x G1 => match x with
  | .val (.bl b) => okV (.bl (!b)) G1
  | _ => .bad
theorem andF_B (ρ : Env) (G : Hpp) : (andF fa fb ρ G).bind asB = ((fa ρ G).bind asB).bind fun c G1 => if c = true then (fb ρ G1).bind asB else .ok false G1 := by
  unfold andF
  cases fa ρ G with
  | ok x G1 =>
    simp only [Res.bind]
    cases x with
    | val d => cases d <;> (try rename_i z; cases z) <;> simp [asB, okV] <;> rfl
    | _ => rfl
  | ex _ _ _ => rfl
  | bad => rfl
theorem orF_B (ρ : Env) (G : Hpp) : (orF fa fb ρ G).bind asB = ((fa ρ G).bind asB).bind fun c G1 => if c = true then .ok true G1 else (fb ρ G1).bind asB := by
  unfold orF
  cases fa ρ G with
  | ok x G1 =>
    simp only [Res.bind]
    cases x with
    | val d => cases d <;> (try rename_i z; cases z) <;> simp [asB, okV] <;> rfl
    | _ => rfl
  | ex _ _ _ => rfl
  | bad => rfl
theorem notF_B (ρ : Env) (G : Hpp) : (notF fa ρ G).bind asB = ((fa ρ G).bind asB).bind fun c G1 => .ok (!c) G1 := by
  unfold notF
  cases fa ρ G with
  | ok x G1 =>
    simp only [Res.bind]
    cases x with
    | val d => cases d <;> simp [asB, okV] <;> rfl
    | _ => rfl
  | ex _ _ _ => rfl
  | bad => rfl
/-- the steps of a test -/
theorem stepT {f : Env → Hpp → Res R} {QQ : γ → List Addr → Hpp → Hp → δ → Prop} {k : Bool → Hpp → Res γ} (hr : HR X.prog X.w X.K ι G H) (er : ER X.K ι H σ ρ) (h : Post X.prog X.w X.K Rel2 XC W ι H QQ (((f ρ G).bind asB).bind k)) :
    tT X XC W f σ H (Nxt X XC W RelB Rel2 σ ρ ι H QQ k) := step (f := fun ρ G => (f ρ G).bind asB) hr er h
theorem w_and1 (ha : PT X a (tT X XC W fa)) : PW X (.BoolOp .And [a] pos) (tT X XC W fa) := pw_and1 ha
theorem w_or1 (ha : PT X a (tT X XC W fa)) : PW X (.BoolOp .Or [a] pos) (tT X XC W fa) := pw_or1 ha
theorem PW.imp {e : Expr} {t t' : TT} (h : PW X e t) (hi : ∀ σ H Q, t' σ H Q → t σ H Q) : PW X e t' := ⟨fun wh pins s σ H Q I q => h.run wh pins s σ H Q I (hi σ H Q q)⟩
theorem PT.imp {e : Expr} {t t' : TT} (h : PT X e t) (hi : ∀ σ H Q, t' σ H Q → t σ H Q) : PT X e t' := ⟨fun pins s σ H Q I q => h.run pins s σ H Q I (hi σ H Q q)⟩
theorem w_and {e : Expr} {rest : List Expr} (ha : PT X a (tT X XC W fa)) (hb : PW X (.BoolOp .And (e :: rest) pos) (tT X XC W fb)) : PW X (.BoolOp .And (a :: e :: rest) pos) (tT X XC W (andF fa fb)) :=
  PW.imp (pw_and ha hb) fun σ H Q ⟨ι, ρ, G, hr, er, h⟩ => by
    dsimp only at h
    rw [andF_B] at h
    obtain ⟨ι', ρ', G', hr', er', h'⟩ := stepT hr er h
    refine ⟨ι', ρ', G', hr', er', h'.imp fun b ι1 G1 H1 c ⟨b', ι2, G2, f2, hr2, er2, e2, h2⟩ => ?_⟩
    subst e2
    by_cases hc : c = true
    · subst hc
      exact ⟨ι2, ρ, G2, hr2, er2, h2.shift hr2 f2 fun _ _ _ _ q => q⟩
    · have hc' : c = false := by simpa using hc
      subst hc'
      exact h2 ι2 H1 false f2 hr2 rfl
theorem w_or {e : Expr} {rest : List Expr} (ha : PT X a (tT X XC W fa)) (hb : PW X (.BoolOp .Or (e :: rest) pos) (tT X XC W fb)) : PW X (.BoolOp .Or (a :: e :: rest) pos) (tT X XC W (orF fa fb)) :=
  PW.imp (pw_or ha hb) fun σ H Q ⟨ι, ρ, G, hr, er, h⟩ => by
    dsimp only at h
    rw [orF_B] at h
    obtain ⟨ι', ρ', G', hr', er', h'⟩ := stepT hr er h
    refine ⟨ι', ρ', G', hr', er', h'.imp fun b ι1 G1 H1 c ⟨b', ι2, G2, f2, hr2, er2, e2, h2⟩ => ?_⟩
    subst e2
    by_cases hc : c = true
    · subst hc
      exact h2 ι2 H1 true f2 hr2 rfl
    · have hc' : c = false := by simpa using hc
      subst hc'
      exact ⟨ι2, ρ, G2, hr2, er2, h2.shift hr2 f2 fun _ _ _ _ q => q⟩
theorem t_not (ha : PT X a (tT X XC W fa)) : PT X (.UnaryOp .Not a pos) (tT X XC W (notF fa)) :=
  PT.imp (pt_not ha) fun σ H Q ⟨ι, ρ, G, hr, er, h⟩ => by
    dsimp only at h
    rw [notF_B] at h
    obtain ⟨ι', ρ', G', hr', er', h'⟩ := stepT hr er h
    refine ⟨ι', ρ', G', hr', er', h'.imp fun b ι1 G1 H1 c ⟨b', ι2, G2, f2, hr2, er2, e2, h2⟩ => ?_⟩
    subst e2
    exact h2 ι2 H1 _ f2 hr2 rfl
theorem x_not (ha : PE X a (tR X XC W fa)) : PE X (.UnaryOp .Not a pos) (tR X XC W (notF fa)) :=
  PE.imp (pe_not ha) fun σ H Q ⟨ι, ρ, G, hr, er, h⟩ => by
    obtain ⟨ι', ρ', G', hr', er', h'⟩ := step (Rel := RR X.prog X.w X.K) hr er h
    refine ⟨ι', ρ', G', hr', er', h'.imp fun b ι1 G1 H1 c ⟨x, ι2, G2, f2, hr2, er2, e2, h2⟩ => ?_⟩
    dsimp only at h2
    split at h2
    · cases rv_bl e2
      exact ⟨_, rfl, h2 ι2 H1 _ f2 hr2 (.bl _)⟩
    · exact h2.elim
theorem x_and {e : Expr} {rest : List Expr} (ha : PE X a (tR X XC W fa)) (hb : PE X (.BoolOp .And (e :: rest) pos) (tR X XC W fb)) : PE X (.BoolOp .And (a :: e :: rest) pos) (tR X XC W (andF fa fb)) :=
  PE.imp (pe_and ha hb) fun σ H Q ⟨ι, ρ, G, hr, er, h⟩ => by
    obtain ⟨ι', ρ', G', hr', er', h'⟩ := step (Rel := RR X.prog X.w X.K) hr er h
    refine ⟨ι', ρ', G', hr', er', h'.imp fun b ι1 G1 H1 c ⟨x, ι2, G2, f2, hr2, er2, e2, h2⟩ => ?_⟩
    dsimp only at h2
    split at h2
    · cases rv_bl e2
      exact ⟨_, rfl, by rw [if_pos rfl]; exact ⟨ι2, ρ, G2, hr2, er2, h2.shift hr2 f2 (backR f2 hr2)⟩⟩
    · cases rv_bl e2
      exact ⟨_, rfl, by rw [if_neg Bool.false_ne_true]; exact h2 ι2 H1 _ f2 hr2 (.bl _)⟩
    · exact h2.elim
theorem x_or {e : Expr} {rest : List Expr} (ha : PE X a (tR X XC W fa)) (hb : PE X (.BoolOp .Or (e :: rest) pos) (tR X XC W fb)) : PE X (.BoolOp .Or (a :: e :: rest) pos) (tR X XC W (orF fa fb)) :=
  PE.imp (pe_or ha hb) fun σ H Q ⟨ι, ρ, G, hr, er, h⟩ => by
    obtain ⟨ι', ρ', G', hr', er', h'⟩ := step (Rel := RR X.prog X.w X.K) hr er h
    refine ⟨ι', ρ', G', hr', er', h'.imp fun b ι1 G1 H1 c ⟨x, ι2, G2, f2, hr2, er2, e2, h2⟩ => ?_⟩
    dsimp only at h2
    split at h2
    · cases rv_bl e2
      exact ⟨_, rfl, by rw [if_pos rfl]; exact h2 ι2 H1 _ f2 hr2 (.bl _)⟩
    · cases rv_bl e2
      exact ⟨_, rfl, by rw [if_neg Bool.false_ne_true]; exact ⟨ι2, ρ, G2, hr2, er2, h2.shift hr2 f2 (backR f2 hr2)⟩⟩
    · exact h2.elim
theorem iteF_B {f : Env → Hpp → Res R} (ρ : Env) (G : Hpp) : ((f ρ G).bind fun x G1 => match x with
    | .val (.bl true) => fa ρ G1
    | .val (.bl false) => fb ρ G1
    | _ => .bad) = ((f ρ G).bind asB).bind fun c G1 => if c = true then fa ρ G1 else fb ρ G1 := by
  cases f ρ G with
  | ok x G1 =>
    simp only [Res.bind]
    cases x with
    | val d => cases d <;> (try rename_i z; cases z) <;> simp [asB]
    | _ => rfl
  | ex _ _ _ => rfl
  | bad => rfl
theorem x_ite {t : Expr} {f : Env → Hpp → Res R} (ht : PT X t (tT X XC W f)) (ha : PE X a (tR X XC W fa)) (hb : PE X b (tR X XC W fb)) : PE X (.IfExp t a b pos) (tR X XC W fun ρ G => (f ρ G).bind fun x G1 => match x with
    | .val (.bl true) => fa ρ G1
    | .val (.bl false) => fb ρ G1
    | _ => .bad) :=
  PE.imp (pe_ifExp ht ha hb) fun σ H Q ⟨ι, ρ, G, hr, er, h⟩ => by
    dsimp only at h
    rw [iteF_B] at h
    obtain ⟨ι', ρ', G', hr', er', h'⟩ := stepT hr er h
    refine ⟨ι', ρ', G', hr', er', h'.imp fun b ι1 G1 H1 c ⟨b', ι2, G2, f2, hr2, er2, e2, h2⟩ => ?_⟩
    subst e2
    dsimp only at h2
    by_cases hc : c = true
    · rw [if_pos hc] at h2 ⊢
      exact ⟨ι2, ρ, G2, hr2, er2, h2.shift hr2 f2 (backR f2 hr2)⟩
    · rw [if_neg hc] at h2 ⊢
      exact ⟨ι2, ρ, G2, hr2, er2, h2.shift hr2 f2 (backR f2 hr2)⟩
end
end LK

set_option Elab.async false
set_option linter.all false
set_option autoImplicit false
set_option maxRecDepth 100000
set_option maxHeartbeats 4000000
/-! LkExp2: arguments, displays, subscripts, calls. -/
namespace LK
open PySem PySem.Spec PyProof.Rows L2
theorem Res.bind_assoc {α β γ : Type} (r : Res α) (f : α → Hpp → Res β) (g : β → Hpp → Res γ) : (r.bind f).bind g = r.bind fun a G => (f a G).bind g := by
  cases r <;> rfl
section
variable {X : Cx} {XC : XCT} {W : WT} {α β γ δ : Type} {Rel : Hp → List Addr → Hp → β → α → Prop} {Rel2 : Hp → List Addr → Hp → δ → γ → Prop}
  {pins : List (Addr × Obj)} {σ : L2.St} {s : Shared} {ι : List Addr} {ρ : Env} {G : Hpp} {H : Hp}
theorem ER.up {ι' : List Addr} (up : ∀ {v : V} {d : D}, RV X.K ι H v d → RV X.K ι' H v d) (er : ER X.K ι H σ ρ) : ER X.K ι' H σ ρ := ⟨er.1, fun i d h => let ⟨v, h1, h2⟩ := er.2 i d h; ⟨v, h1, up h2⟩⟩
/-- a value is read and bound -/
theorem stepD {f : Env → Hpp → Res R} {QQ : γ → List Addr → Hpp → Hp → δ → Prop} {k : D → Hpp → Res γ} (hr : HR X.prog X.w X.K ι G H) (er : ER X.K ι H σ ρ) (h : Post X.prog X.w X.K Rel2 XC W ι H QQ (((f ρ G).bind toD).bind k)) :
    tR X XC W f σ H (Nxt X XC W (RelD X.K) Rel2 σ ρ ι H QQ k) := by
  rw [Res.bind_assoc] at h
  obtain ⟨ι', ρ', G', hr', er', h'⟩ := step (Rel := RR X.prog X.w X.K) hr er h
  refine ⟨ι', ρ', G', hr', er', h'.imp fun r ι1 G1 H1 v ⟨r', ι2, G2, f2, hr2, er2, q2, h2⟩ => ?_⟩
  obtain ⟨d, G3, ι3, e3, hr3, q3, p3, n3, up, _, _⟩ := bindD hr2 q2
  dsimp only at h2
  rw [e3] at h2
  exact ⟨d, ι3, G3, f2.bound p3 n3, hr3, ER.up up er2, q3, h2⟩
theorem stepD2 {f : Env → Hpp → Res R} {QQ : γ → List Addr → Hpp → Hp → δ → Prop} {k : D → Hpp → Res γ} {ι1 : List Addr} {G1 : Hpp} {H1 : Hp} (fr : Fr2 ι H ι1 H1) (hr : HR X.prog X.w X.K ι1 G1 H1) (er : ER X.K ι1 H1 σ ρ)
    (hb : ∀ ι2 H2 v a, Rel2 H1 ι2 H2 v a → Rel2 H ι2 H2 v a) (h : Post X.prog X.w X.K Rel2 XC W ι H QQ (((f ρ G1).bind toD).bind k)) : tR X XC W f σ H1 (Nxt X XC W (RelD X.K) Rel2 σ ρ ι1 H1 QQ k) :=
  stepD hr er (h.shift hr fr hb)
variable {a b c e : Expr} {es : List Expr} {fa fb fc : Env → Hpp → Res R} {fs : Env → Hpp → Res (List D)} {pos : Pos}
theorem PA.imp {es : List Expr} {t t' : TA} (h : PA X es t) (hi : ∀ σ H Q, t' σ H Q → t σ H Q) : PA X es t' := ⟨fun p pins s σ H Q I q => h.run p pins s σ H Q I (hi σ H Q q)⟩
theorem a_nil : PA X [] (tA X XC W fun _ G => .ok [] G) := PA.imp pa_nil fun σ H Q ⟨ι, ρ, G, hr, er, h⟩ => h ι H [] .refl hr .nil
theorem a_cons (ha : PE X e (tR X XC W fa)) (hs : PA X es (tA X XC W fs)) (hst : starEach (e :: es) X.env = (false, eval e X.env) :: starEach es X.env) :
    PA X (e :: es) (tA X XC W fun ρ G => ((fa ρ G).bind toD).bind fun d G1 => (fs ρ G1).bind fun ds G2 => .ok (d :: ds) G2) :=
  PA.imp (pa_cons ha hs hst) fun σ H Q ⟨ι, ρ, G, hr, er, h⟩ => by
    obtain ⟨ι', ρ', G', hr', er', h'⟩ := stepD hr er h
    refine ⟨ι', ρ', G', hr', er', h'.imp fun r ι1 G1 H1 v ⟨d, ι2, G2, f2, hr2, er2, q2, h2⟩ => ?_⟩
    obtain ⟨ι3, ρ3, G3, hr3, er3, h3⟩ := step2 (Rel := RelL X.K) f2 hr2 er2 (fun _ _ _ _ q => q) h2
    refine ⟨ι3, ρ3, G3, hr3, er3, h3.imp fun r ι4 G4 H4 vs ⟨ds, ι5, G5, f5, hr5, er5, q5, h5⟩ => ?_⟩
    exact h5 ι5 H4 (v :: vs) f5 hr5 (.cons (RV.go hr2 f5 q2) q5)
theorem x_tup {k : Nat} (hs : PA X es (tA X XC W fs)) (hl : es.length ≤ 1000) (hf : ∀ ρ G ds G', fs ρ G = .ok ds G' → ds.length = es.length) : PE X (.Tuple es k pos) (tR X XC W fun ρ G => (fs ρ G).bind fun ds G1 => okV (.tup ds) G1) :=
  PE.imp (pe_tup hs) fun σ H Q ⟨ι, ρ, G, hr, er, h⟩ => by
    cases e : fs ρ G with
    | ok ds G1 =>
      dsimp only at h
      rw [e] at h
      refine ⟨ι, ρ, G, hr, er, ?_⟩
      rw [e]
      refine fun ι1 H1 vs f1 hr1 q1 => ⟨?_, fun p hp => ?_⟩
      · rw [RVs.length q1, hf ρ G ds G1 e]; exact Nat.le_trans hl (by rw [sizeLine_eq]; decide)
      · exact h ι1 (upd H1 p (.tup vs)) (.ref p) (f1.trans hr1 (Fr2.laid hp)) (hr1.laid hp) (.tup (SqT.of upd_same) (q1.go hr1 (Fr2.laid hp)))
    | ex _ _ _ =>
      dsimp only at h
      rw [e] at h
      exact ⟨ι, ρ, G, hr, er, by rw [e]; exact h⟩
    | bad =>
      dsimp only at h
      rw [e] at h
      exact h.elim
theorem x_lst (hs : PA X es (tA X XC W fs)) (hl : es.length ≤ 1000) (hf : ∀ ρ G ds G', fs ρ G = .ok ds G' → ds.length = es.length) : PE X (.List es pos) (tR X XC W fun ρ G => (fs ρ G).bind fun ds G1 => .ok (.newL ds) G1) :=
  PE.imp (pe_lst hs) fun σ H Q ⟨ι, ρ, G, hr, er, h⟩ => by
    cases e : fs ρ G with
    | ok ds G1 =>
      dsimp only at h
      rw [e] at h
      refine ⟨ι, ρ, G, hr, er, ?_⟩
      rw [e]
      refine fun ι1 H1 vs f1 hr1 q1 => ⟨?_, fun p hp => ?_⟩
      · rw [RVs.length q1, hf ρ G ds G1 e]; exact Nat.le_trans hl (by rw [sizeLine_eq]; decide)
      · exact h ι1 (upd H1 p (.lst vs)) (.ref p) (f1.trans hr1 (Fr2.laid hp)) (hr1.laid hp) ⟨p, vs, rfl, upd_same, q1.go hr1 (Fr2.laid hp), f1.back hr1 hp, hr1.notin hp⟩
    | ex _ _ _ =>
      dsimp only at h
      rw [e] at h
      exact ⟨ι, ρ, G, hr, er, by rw [e]; exact h⟩
    | bad =>
      dsimp only at h
      rw [e] at h
      exact h.elim
theorem x_dnew {t : Bool} : PE X (.Dict [] [] pos) (tR X XC W fun _ G => .ok (.newD t []) G) := by
  refine ⟨fun pins s σ H Q I ⟨ι, ρ, G, hr, er, h⟩ => ?_⟩
  have hf : H s.heap.objs.size = none := I.hok.fresh (Nat.le_refl _)
  cases t with
  | false =>
    refine wpAny_Dict_empty ⟨.ref s.heap.objs.size, _, I.laid (a := s.heap.objs.size) (o := .dK []) (t' := s.toks) (fun _ _ q => Heap.get?_push_of_some _ q) (Nat.le_refl _) (dk_empty s.heap I.big), rfl, ?_⟩
    exact h ι _ _ (Fr2.laid hf) (hr.laid hf) ⟨_, rfl, ⟨[], upd_same, .nil⟩, hf, hr.notin hf⟩
  | true =>
    have hb : (s.heap.objs.size == sysModules) = false := beq_eq_false_iff_ne.mpr (Ne.symm (Nat.ne_of_lt I.big))
    refine wpAny_Dict_empty ⟨.ref s.heap.objs.size, _, I.laid (a := s.heap.objs.size) (o := DictOb X.prog X.w s.heap.objs.size []) (t' := s.toks) (fun _ _ q => Heap.get?_push_of_some _ q) (Nat.le_refl _)
      (dictOb_obj (xs := []) (es := #[]) (ep := 0) hb (Heap.get?_push_size _ rfl) ⟨rfl, rfl, rfl⟩ rfl rfl List.nodup_nil), rfl, ?_⟩
    exact h ι _ _ (Fr2.laid hf) (hr.laid hf) ⟨_, rfl, ⟨[], upd_same, Nat.zero_le _, .nil⟩, hf, hr.notin hf⟩
/-! ### subscripts, slices -/
variable (hu : X.A.units + 150 < cLine)
include hu
theorem x_idx (ha : PE X a (tR X XC W fa)) (hb : PE X b (tR X XC W fb)) (hs : PlainIx b) : PE X (.Subscript a b pos) (tR X XC W fun ρ G => (fa ρ G).bind fun x G1 => (fb ρ G1).bind fun y G2 => idxR x y G2) := by
  refine ⟨fun pins s σ H Q I ⟨ι, ρ, G, hr, er, h⟩ => ?_⟩
  refine Subscript_ (thn (ha.run pins s σ H _ I (step hr er h)) fun v s1 ⟨x, H1, I1, r1, p, ι1, G1, f1, hr1, er1, q1, h1⟩ =>
    thn (hb.run pins s1 σ H1 _ I1 (step2 f1 hr1 er1 (backR f1 hr1) h1)) fun u s2 ⟨y, H2, I2, r2, q, ι2, G2, f2, hr2, er2, q2, h2⟩ => ?_)
  exact thn (idx_ok hu I2 hr2 r1 r2 (q1.go hr1 f2) q2 (hs _ _) (h2.shift hr2 f2 (backR f2 hr2))) fun _ _ e => ep_of e
/-- a part of a slice -/
def RelO2 : Hp → List Addr → Hp → Option Int → Option Int → Prop := fun _ _ _ a b => a = b
abbrev tP (X : Cx) (XC : XCT) (W : WT) (f : Env → Hpp → Res (Option Int)) : TO := tX X XC W RelO2 f
omit hu in
theorem PO.imp {e : Option Expr} {t t' : TO} (h : PO X e t) (hi : ∀ σ H Q, t' σ H Q → t σ H Q) : PO X e t' := ⟨fun pins s σ H Q I q => h.run pins s σ H Q I (hi σ H Q q)⟩
omit hu in
theorem p_none : PO X none (tP X XC W fun _ G => .ok none G) := PO.imp po_none fun σ H Q ⟨ι, ρ, G, hr, er, h⟩ => h ι H none .refl hr rfl
omit hu in
theorem p_some (h : PE X e (tR X XC W fa)) : PO X (some e) (tP X XC W fun ρ G => (fa ρ G).bind fun r G1 => match r with
    | .val (.int i) => .ok (some i) G1
    | _ => .bad) := PO.imp (po_some h) fun σ H Q ⟨ι, ρ, G, hr, er, h⟩ => by
  obtain ⟨ι', ρ', G', hr', er', h'⟩ := step (Rel := RR X.prog X.w X.K) hr er h
  refine ⟨ι', ρ', G', hr', er', h'.imp fun b ι1 G1 H1 c ⟨x, ι2, G2, f2, hr2, er2, e2, h2⟩ => ?_⟩
  dsimp only at h2
  split at h2
  · cases rv_int e2
    exact ⟨_, rfl, h2 ι2 H1 _ f2 hr2 rfl⟩
  · exact h2.elim
omit hu in
theorem x_slc {lo hi : Option Expr} {fl fh : Env → Hpp → Res (Option Int)} {p2 : Pos} (ha : PE X a (tR X XC W fa)) (hl : PO X lo (tP X XC W fl)) (hh : PO X hi (tP X XC W fh)) :
    PE X (.Subscript a (.Slice lo hi none p2) pos) (tR X XC W fun ρ G => (fa ρ G).bind fun x G1 => (fl ρ G1).bind fun l G2 => (fh ρ G2).bind fun h G3 => cutR x l h G3) := by
  refine ⟨fun pins s σ H Q I ⟨ι, ρ, G, hr, er, h⟩ => ?_⟩
  refine Subscript_ (thn (ha.run pins s σ H _ I (step hr er h)) fun v s1 ⟨x, H1, I1, r1, p, ι1, G1, f1, hr1, er1, q1, h1⟩ => ?_)
  refine wpAny_Slice (thn (hl.run pins s1 σ H1 _ I1 (step2 f1 hr1 er1 (backR f1 hr1) h1)) fun vl s2 ⟨l, H2, I2, pl, l', ι2, G2, f2, hr2, er2, el, h2⟩ => thn (hh.run pins s2 σ H2 _ I2 (step2 f2 hr2 er2 (backR f2 hr2) h2)) fun vu s3 ⟨u, H3, I3, pu, u', ι3, G3, f3, hr3, er3, eu, h3⟩ => ?_)
  have el : l = l' := el
  have eu : u = u' := eu
  subst el eu
  rw [evalPart_none]
  refine wpAny_pure ?_
  have I4 : Inv X pins σ H3 { s3 with heap := s3.heap.push { cls := .type "slice", data := .fields #[vl, vu, .none] } } := I3.kept (t' := s3.toks) fun b ob q => Heap.get?_push_of_some _ q
  have q3 := (RR.go hr2 f3 (q1.go hr1 f2))
  obtain ⟨T, id, hT, ht, hg⟩ := slc_ok (sl := s3.heap.objs.size) I4 hr3 r1 q3 (Heap.IsSliceOf.new ..) pl pu (h3.shift hr3 f3 (backR f3 hr3))
  show wpAny (model X.prog X.w) X.A (subscriptTail a (.Slice lo hi none p2) v (.ref s3.heap.objs.size)) (EP X pins σ Q) X.xe { s3 with heap := s3.heap.push { cls := .type "slice", data := .fields #[vl, vu, .none] } }
  exact tail_any (ops := [.ref s3.heap.objs.size, v]) ht hT (thn hg fun _ _ e => ep_of e) (by with_unfolding_all rfl)
/-! ### built-ins by name -/
/-- the name is the built-in's -/
structure Blt (X : Cx) (x : Str) (v : Value) : Prop where
  gl : Gl X x
  mg : X.mg x = none
  bv : bootBuiltins x = some v
  nn : x ≠ "__name__"
  nd : (x == ("__debug__" : Str)) = false
/-- not starred -/
abbrev NoStar (X : Cx) (es : List Expr) : Prop := ∀ e r, es = e :: r → starEach (e :: r) X.env = (false, eval e X.env) :: starEach r X.env ∧ ∀ pos, (backTo pos (starEach r X.env)).any (·.1) = false
omit hu in
/-- id(a), id a built-in function or type -/
theorem x_blt1 {x : Str} {bv : Value} {p : Pos} {k : R → Hpp → Res R} (hb : Blt X x bv) (hid : (∃ id, bv = .builtin id) ∨ ∃ T, bv = .type T) (ha : PE X a (tR X XC W fa)) (hs : starEach [a] X.env = [(false, eval a X.env)])
    (hk : ∀ (pins : List (Addr × Obj)) (s : Shared) (σ : L2.St) (ι ι1 : List Addr) (G : Hpp) (H H1 : Hp) (y : V) (v : Value) (r : R) (QQ : R → List Addr → Hpp → Hp → V → Prop), Inv X pins σ H s → HR X.prog X.w X.K ι G H → L2.RelV y v → RR X.prog X.w X.K H1 ι H y r → PRes X XC W ι H QQ (k r G) →
      wpAny (model X.prog X.w) X.A (call bv [v]) (EP X pins σ (QV QQ)) X.xe s) :
    PE X (.Call (.Name x p) [a] [] pos) (tR X XC W fun ρ G => (fa ρ G).bind k) := by
  have run : ∀ (pins : List (Addr × Obj)) (σ : L2.St) (ι : List Addr) (ρ : Env) (H : Hp) (Q : VK), ∀ us s1, AP X pins σ (Nxt X XC W (RR X.prog X.w X.K) (RR X.prog X.w X.K) σ ρ ι H (fun _ _ _ H' v => Q v H') k ∘ fun vs => vs.headD .non) us s1 → (∃ u, us = [u]) → wpAny (model X.prog X.w) X.A (call bv us) (EP X pins σ Q) X.xe s1 := by
    rintro pins σ ι ρ H Q us s1 ⟨vs, H1, I1, r1, r, ι1, G1, f1, hr1, er1, q1, h1⟩ ⟨u, rfl⟩
    cases r1 with
    | cons r1 r2 =>
      cases r2
      exact thn (hk pins s1 σ ι1 ι1 G1 H1 H _ u r _ I1 hr1 r1 q1 (h1.shift hr1 f1 (backR f1 hr1))) fun _ _ e => ep_of e
  have args : ∀ (pins : List (Addr × Obj)) (s : Shared) (σ : L2.St) (ι : List Addr) (ρ : Env) (G : Hpp) (H : Hp) (Q : VK), Inv X pins σ H s → HR X.prog X.w X.K ι G H → ER X.K ι H σ ρ → Post X.prog X.w X.K (RR X.prog X.w X.K) XC W ι H (fun _ _ _ H' v => Q v H') ((fa ρ G).bind k) →
      wpAny (model X.prog X.w) X.A (spliced (backTo pos (starEach [a] X.env))) (fun us s1 => AP X pins σ (Nxt X XC W (RR X.prog X.w X.K) (RR X.prog X.w X.K) σ ρ ι H (fun _ _ _ H' v => Q v H') k ∘ fun vs => vs.headD .non) us s1 ∧ ∃ u, us = [u]) X.xe s := by
    intro pins s σ ι ρ G H Q I hr er h
    rw [hs]
    show wpAny _ _ (spliced ((false, eval a X.env) :: backTo pos [])) _ _ s
    refine Calls.spliced_cons (thn (ha.run pins s σ H _ I (step hr er h)) fun u s1 ⟨x, H1, I1, r1, q1⟩ => ?_)
    exact Calls.spliced_nil ⟨⟨[x], H1, I1, .cons r1 .nil, q1⟩, u, rfl⟩
  have e0 : starEach (a :: []) X.env = (false, eval a X.env) :: starEach [] X.env := hs
  have hpl : (backTo pos (starEach [] X.env)).any (·.1) = false := rfl
  refine ⟨fun pins s σ H Q I ⟨ι, ρ, G, hr, er, h⟩ => ?_⟩
  rcases hid with ⟨id, rfl⟩ | ⟨T, rfl⟩
  · refine wpAny_Call_Name_kw (ld_blt I hb.gl hb.mg hb.bv ?_ hb.nn hb.nd)
    exact PyProof.Rows.callWith_builtin1 (thn (args pins s σ ι ρ G H Q I hr er h) fun us s1 ⟨q, hu⟩ => run pins σ ι ρ H Q us s1 q hu) e0 hpl
  · refine wpAny_Call_Name_kw (ld_blt I hb.gl hb.mg hb.bv ?_ hb.nn hb.nd)
    exact PyProof.Rows.callWith_type1 (thn (args pins s σ ι ρ G H Q I hr er h) fun us s1 ⟨q, hu⟩ => run pins σ ι ρ H Q us s1 q hu) e0 hpl
omit hu in
theorem x_len {p : Pos} (hb : Blt X "len" (.builtin "len")) (ha : PE X a (tR X XC W fa)) (hs : starEach [a] X.env = [(false, eval a X.env)]) : PE X (.Call (.Name "len" p) [a] [] pos) (tR X XC W fun ρ G => (fa ρ G).bind lenR) :=
  x_blt1 hb (.inl ⟨_, rfl⟩) ha hs fun pins s σ ι ι1 G H H1 y v r QQ I hr rx q h => len_ok I hr rx q h
theorem x_seq {p : Pos} {b : Sb} {x : Str} (hc : X.calm = true) (hb : Blt X x b.val) (ha : PE X a (tR X XC W fa)) (hs : starEach [a] X.env = [(false, eval a X.env)]) : PE X (.Call (.Name x p) [a] [] pos) (tR X XC W fun ρ G => (fa ρ G).bind (seqR b)) :=
  x_blt1 hb (by cases b <;> first | exact .inl ⟨_, rfl⟩ | exact .inr ⟨_, rfl⟩) ha hs fun pins s σ ι ι1 G H H1 y v r QQ I hr rx q h => seqR_ok hu hc I hr rx q h
omit hu in
theorem x_abs {p : Pos} (hb : Blt X "abs" (.builtin "abs")) (ha : PE X a (tR X XC W fa)) (hs : starEach [a] X.env = [(false, eval a X.env)]) : PE X (.Call (.Name "abs" p) [a] [] pos) (tR X XC W fun ρ G => (fa ρ G).bind fun x G1 => match x with
    | .val (.int i) => okV (.int (if i < 0 then -i else i)) G1
    | _ => .bad) :=
  x_blt1 hb (.inl ⟨_, rfl⟩) ha hs fun pins s σ ι ι1 G H H1 y v r QQ I hr rx q h => by
    try dsimp only at h
    split at h
    · cases rv_int q
      exact call_abs pins s σ H [_] [v] _ I (.cons rx .nil) ⟨_, rfl, ok_val hr h (.int _)⟩
    · exact h.elim
omit hu in
theorem x_int1 {p : Pos} (hb : Blt X "int" (.type "int")) (ha : PE X a (tR X XC W fa)) (hs : starEach [a] X.env = [(false, eval a X.env)]) : PE X (.Call (.Name "int" p) [a] [] pos) (tR X XC W fun ρ G => (fa ρ G).bind fun x G1 => match x with
    | .val (.int i) => okV (.int i) G1
    | .val (.bl b) => okV (.int (if b then 1 else 0)) G1
    | _ => .bad) :=
  x_blt1 hb (.inr ⟨_, rfl⟩) ha hs fun pins s σ ι ι1 G H H1 y v r QQ I hr rx q h => by
    try dsimp only at h
    split at h
    · cases rv_int q
      exact call_int1 pins s σ H [_] [v] _ I (.cons rx .nil) (.inl ⟨_, rfl, ok_val hr h (.int _)⟩)
    · cases rv_bl q
      exact call_int1 pins s σ H [_] [v] _ I (.cons rx .nil) (.inr ⟨_, rfl, ok_val hr h (.int _)⟩)
    · exact h.elim
/-- id(a, b) -/
theorem x_blt2 {x : Str} {id : String} {p : Pos} {k : R → R → Hpp → Res R} (hb : Blt X x (.builtin id)) (ha : PE X a (tR X XC W fa)) (hb2 : PE X b (tR X XC W fb)) (hs : starEach [a, b] X.env = [(false, eval a X.env), (false, eval b X.env)]) (hs2 : starEach [b] X.env = [(false, eval b X.env)])
    (hk : ∀ (pins : List (Addr × Obj)) (s : Shared) (σ : L2.St) (ι : List Addr) (G : Hpp) (H H0 H1 : Hp) (y z : V) (v u : Value) (r q : R) (QQ : R → List Addr → Hpp → Hp → V → Prop), Inv X pins σ H s → HR X.prog X.w X.K ι G H → L2.RelV y v → L2.RelV z u → RR X.prog X.w X.K H0 ι H y r → RR X.prog X.w X.K H1 ι H z q → PRes X XC W ι H QQ (k r q G) →
      wpAny (model X.prog X.w) X.A (call (.builtin id) [v, u]) (EP X pins σ (QV QQ)) X.xe s) :
    PE X (.Call (.Name x p) [a, b] [] pos) (tR X XC W fun ρ G => (fa ρ G).bind fun x G1 => (fb ρ G1).bind fun y G2 => k x y G2) := by
  have e0 : starEach (a :: [b]) X.env = (false, eval a X.env) :: starEach [b] X.env := by rw [hs, hs2]
  have hpl : (backTo pos (starEach [b] X.env)).any (·.1) = false := by rw [hs2]; rfl
  refine ⟨fun pins s σ H Q I ⟨ι, ρ, G, hr, er, h⟩ => ?_⟩
  refine wpAny_Call_Name_kw (ld_blt I hb.gl hb.mg hb.bv ?_ hb.nn hb.nd)
  refine PyProof.Rows.callWith_builtin1 ?_ e0 hpl
  rw [hs]
  show wpAny _ _ (spliced ((false, eval a X.env) :: (false, eval b X.env) :: backTo pos [])) _ _ s
  refine Calls.spliced_cons (thn (ha.run pins s σ H _ I (step hr er h)) fun v s1 ⟨x, H1, I1, r1, rx, ι1, G1, f1, hr1, er1, q1, h1⟩ => ?_)
  refine Calls.spliced_cons (thn (hb2.run pins s1 σ H1 _ I1 (step2 f1 hr1 er1 (backR f1 hr1) h1)) fun u s2 ⟨y, H2, I2, r2, ry, ι2, G2, f2, hr2, er2, q2, h2⟩ => ?_)
  exact Calls.spliced_nil (thn (hk pins s2 σ ι2 G2 H2 H H1 x y v u rx ry _ I2 hr2 r1 r2 (q1.go hr1 f2) q2 (h2.shift hr2 f2 (backR f2 hr2))) fun _ _ e => ep_of e)
theorem x_min2 {p : Pos} (hc : X.calm = true) (hb : Blt X "min" (.builtin "min")) (ha : PE X a (tR X XC W fa)) (hb2 : PE X b (tR X XC W fb)) (hs : starEach [a, b] X.env = [(false, eval a X.env), (false, eval b X.env)]) (hs2 : starEach [b] X.env = [(false, eval b X.env)]) :
    PE X (.Call (.Name "min" p) [a, b] [] pos) (tR X XC W fun ρ G => (fa ρ G).bind fun x G1 => (fb ρ G1).bind fun y G2 => match x, y with
    | .val (.int i), .val (.int j) => okV (.int (if j < i then j else i)) G2
    | _, _ => .bad) :=
  x_blt2 (k := fun x y G2 => match x, y with
    | .val (.int i), .val (.int j) => okV (.int (if j < i then j else i)) G2
    | _, _ => .bad) hu hb ha hb2 hs hs2 fun pins s σ ι G H H0 H1 y z v u r q QQ I hr rx ry q1 q2 h => by
    try dsimp only at h
    split at h
    · cases rv_int q1; cases rv_int q2
      exact call_min2 hc pins s σ H [_, _] [v, u] _ I (.cons rx (.cons ry .nil)) ⟨_, _, rfl, ok_val hr h (.int _)⟩
    · exact h.elim
theorem x_max2 {p : Pos} (hc : X.calm = true) (hb : Blt X "max" (.builtin "max")) (ha : PE X a (tR X XC W fa)) (hb2 : PE X b (tR X XC W fb)) (hs : starEach [a, b] X.env = [(false, eval a X.env), (false, eval b X.env)]) (hs2 : starEach [b] X.env = [(false, eval b X.env)]) :
    PE X (.Call (.Name "max" p) [a, b] [] pos) (tR X XC W fun ρ G => (fa ρ G).bind fun x G1 => (fb ρ G1).bind fun y G2 => match x, y with
    | .val (.int i), .val (.int j) => okV (.int (if j > i then j else i)) G2
    | _, _ => .bad) :=
  x_blt2 (k := fun x y G2 => match x, y with
    | .val (.int i), .val (.int j) => okV (.int (if j > i then j else i)) G2
    | _, _ => .bad) hu hb ha hb2 hs hs2 fun pins s σ ι G H H0 H1 y z v u r q QQ I hr rx ry q1 q2 h => by
    try dsimp only at h
    split at h
    · cases rv_int q1; cases rv_int q2
      exact call_max2 hc pins s σ H [_, _] [v, u] _ I (.cons rx (.cons ry .nil)) ⟨_, _, rfl, ok_val hr h (.int _)⟩
    · exact h.elim
omit hu in
/-- isinstance(a, T) -/
theorem x_isi {p pt : Pos} {t : Ty} {tn : Str} (hb : Blt X "isinstance" (.builtin "isinstance")) (ht : Blt X tn (.type t.nm)) (ha : PE X a (tR X XC W fa)) (hs : starEach [a, .Name tn pt] X.env = [(false, eval a X.env), (false, eval (.Name tn pt) X.env)]) :
    PE X (.Call (.Name "isinstance" p) [a, .Name tn pt] [] pos) (tR X XC W fun ρ G => (fa ρ G).bind fun x G1 => optB (isiR x t G1) G1) := by
  have hs2 : starEach [.Name tn pt] X.env = [(false, eval (.Name tn pt) X.env)] := rfl
  have e0 : starEach (a :: [.Name tn pt]) X.env = (false, eval a X.env) :: starEach [.Name tn pt] X.env := by rw [hs, hs2]
  have hpl : (backTo pos (starEach [.Name tn pt] X.env)).any (·.1) = false := by rw [hs2]; rfl
  refine ⟨fun pins s σ H Q I ⟨ι, ρ, G, hr, er, h⟩ => ?_⟩
  refine wpAny_Call_Name_kw (ld_blt I hb.gl hb.mg hb.bv ?_ hb.nn hb.nd)
  refine PyProof.Rows.callWith_builtin1 ?_ e0 hpl
  rw [hs]
  show wpAny _ _ (spliced ((false, eval a X.env) :: (false, eval (.Name tn pt) X.env) :: backTo pos [])) _ _ s
  refine Calls.spliced_cons (thn (ha.run pins s σ H _ I (step hr er h)) fun v s1 ⟨x, H1, I1, r1, rx, ι1, G1, f1, hr1, er1, q1, h1⟩ => ?_)
  refine Calls.spliced_cons (ld_blt I1 ht.gl ht.mg ht.bv (Calls.spliced_nil ?_) ht.nn ht.nd)
  try dsimp only at h1
  cases e : isiR rx t G1 with
  | none => rw [e] at h1; exact h1.elim
  | some k =>
    rw [e] at h1
    exact isi_ok I1 hr1 r1 q1 e (h1 ι1 H1 (.bl k) f1 hr1 (.bl k))
end
end LK

set_option Elab.async false
set_option linter.all false
set_option autoImplicit false
set_option maxRecDepth 100000
set_option maxHeartbeats 4000000
/-! LkExp3: calls of defs, methods, list(range(..)). -/
namespace LK
open PySem PySem.Spec PyProof.Rows L2
/-- what a def promises: what its function in the language gives -/
def spL (P : Program) (w : World) (K : PySem.W.Frag) (XC : XCT) (CF : CallF) (f : Str) (np : Nat) : Sp := fun vs H Q E =>
  ∃ ι G ds, HR P w K ι G H ∧ RVs K ι H vs ds ∧ vs.length = np ∧ Post P w K (RelD K) XC E ι H (fun _ _ _ H' v => Q v H') (CF f ds G)
section
variable {X : Cx} {XC : XCT} {W : WT} {α β γ δ : Type} {Rel : Hp → List Addr → Hp → β → α → Prop} {Rel2 : Hp → List Addr → Hp → δ → γ → Prop}
  {pins : List (Addr × Obj)} {σ : L2.St} {s : Shared} {ι : List Addr} {ρ : Env} {G : Hpp} {H : Hp}
variable {a b c e : Expr} {es : List Expr} {fa fb fc : Env → Hpp → Res R} {fs gs : Env → Hpp → Res (List D)} {pos : Pos}
theorem PK.imp {kws : List Keyword} {t t' : TA} (h : PK X kws t) (hi : ∀ σ H Q, t' σ H Q → t σ H Q) : PK X kws t' := ⟨fun p pins s σ H Q I q => h.run p pins s σ H Q I (hi σ H Q q)⟩
theorem k_nil : PK X [] (tA X XC W fun _ G => .ok [] G) := PK.imp pk_nil fun σ H Q ⟨ι, ρ, G, hr, er, h⟩ => h ι H [] .refl hr .nil
theorem k_cons {kws : List Keyword} {nm : Option Str} {kpos : Pos} (ha : PE X e (tR X XC W fa)) (hs : PK X kws (tA X XC W fs)) :
    PK X (⟨nm, e, kpos⟩ :: kws) (tA X XC W fun ρ G => ((fa ρ G).bind toD).bind fun d G1 => (fs ρ G1).bind fun ds G2 => .ok (d :: ds) G2) :=
  PK.imp (pk_cons ha hs) fun σ H Q ⟨ι, ρ, G, hr, er, h⟩ => by
    obtain ⟨ι', ρ', G', hr', er', h'⟩ := stepD hr er h
    refine ⟨ι', ρ', G', hr', er', h'.imp fun r ι1 G1 H1 v ⟨d, ι2, G2, f2, hr2, er2, q2, h2⟩ => ?_⟩
    obtain ⟨ι3, ρ3, G3, hr3, er3, h3⟩ := step2 (Rel := RelL X.K) f2 hr2 er2 (fun _ _ _ _ q => q) h2
    refine ⟨ι3, ρ3, G3, hr3, er3, h3.imp fun r ι4 G4 H4 vs ⟨ds, ι5, G5, f5, hr5, er5, q5, h5⟩ => ?_⟩
    exact h5 ι5 H4 (v :: vs) f5 hr5 (.cons (RV.go hr2 f5 q2) q5)
theorem post_val {QQ : R → List Addr → Hpp → Hp → V → Prop} {r : Res D} (h : Post X.prog X.w X.K (RR X.prog X.w X.K) XC W ι H QQ (r.bind fun d G => okV d G)) : Post X.prog X.w X.K (RelD X.K) XC W ι H (fun d ι' G' H' v => QQ (.val d) ι' G' H' v) r := by
  cases r with
  | ok d G => exact h
  | ex _ _ _ => exact h
  | bad => exact h
/-- the keywords are all named -/
theorem named_all : ∀ {kws : List Keyword} {ks : List Str}, kws.map Keyword.arg = ks.map some → ∀ (env : PySem.Env) (pos : Pos), (backToKw pos (keywordEach kws env)).all (·.1.isSome) = true ∧ (backToKw pos (keywordEach kws env)).filterMap (·.1) = ks ∧ (backToKw pos (keywordEach kws env)).any (·.1.isNone) = false
  | [], [], _, _, _ => ⟨rfl, rfl, rfl⟩
  | [], _ :: _, h, _, _ => by simp at h
  | _ :: _, [], h, _, _ => by simp at h
  | ⟨nm, e, p⟩ :: kws, k :: ks, h, env, pos => by
    simp only [List.map_cons, List.cons.injEq] at h
    obtain ⟨h1, h2⟩ := h
    obtain ⟨i1, i2, i3⟩ := named_all h2 env pos
    subst h1
    have e1 : backToKw pos (keywordEach (⟨some k, e, p⟩ :: kws) env) = (some k, do let v ← eval e env; standAt pos; pure v) :: backToKw pos (keywordEach kws env) := rfl
    rw [e1]
    refine ⟨?_, ?_, ?_⟩
    · rw [List.all_cons, i1]; rfl
    · rw [List.filterMap_cons, i2]
    · rw [List.any_cons, i3]; rfl
/-- how a call of this shape binds -/
structure ShOk (K : PySem.W.Frag) (fd : FuncData) (ps : List Str) (n : Nat) (ks : List Str) (dd : List D) : Prop where
  to : ∃ (ds : List Value) (dvs : List V), Vals dvs ds ∧ (∀ ι H, RVs K ι H dvs dd) ∧ ∀ (s : Shared) (us ws : List Value), K.In s.heap → us.length = n → ws.length = ks.length → BindsTo s fd ⟨us, ks.zip ws⟩ (ps.zip (us ++ ws ++ ds))
  len : n + ks.length + dd.length = ps.length
theorem x_call {f : Str} {fp : Addr} {fd : FuncData} {ps ks : List Str} {CX : CXT} {k n : Nat} {CF : CallF} {dd : List D} {args : List Expr} {kws : List Keyword} {p : Pos}
    (F : FnOk X.prog X.w X.K X.mg X.base CX k fp fd ps (spL X.prog X.w X.K XC CF f ps.length)) (hr : Room k X.A) (hg : Gl X f) (hm : X.mg f = some (.ref fp)) (hk : PySem.W.keepIn X.K (.ref fp) = true) (hdb : (f == ("__debug__" : Str)) = false)
    (hb : ShOk X.K fd ps n ks dd) (hx : Passes CX X W) (ha : PA X args (tA X XC W fs)) (hkw : PK X kws (tA X XC W gs)) (hks : kws.map Keyword.arg = ks.map some) (hfs : ∀ ρ G ds G', fs ρ G = .ok ds G' → ds.length = n) (hgs : ∀ ρ G ds G', gs ρ G = .ok ds G' → ds.length = ks.length)
    (hst : ∀ e r, args = e :: r → starEach (e :: r) X.env = (false, eval e X.env) :: starEach r X.env) (hpl : ∀ pos, (backTo pos (starEach args X.env)).any (·.1) = false) (hnil : args = [] → fs = fun _ G => .ok [] G) :
    PE X (.Call (.Name f p) args kws pos) (tR X XC W fun ρ G => (fs ρ G).bind fun ds G1 => (gs ρ G1).bind fun zs G2 => (CF f (ds ++ zs ++ dd) G2).bind fun d G3 => okV d G3) := by
  obtain ⟨n1, n2, n3⟩ := named_all hks X.env pos
  have len1 : ∀ {ρ : Env} {G : Hpp} {QQ : R → List Addr → Hpp → Hp → V → Prop} {ι : List Addr} {H : Hp} {k : List D → Hpp → Res R}, Post X.prog X.w X.K (RR X.prog X.w X.K) XC W ι H QQ ((fs ρ G).bind k) → Post X.prog X.w X.K (RR X.prog X.w X.K) XC W ι H QQ ((fs ρ G).bind fun ds G1 => if ds.length = n then k ds G1 else .bad) := by
    intro ρ G QQ ι H k h
    cases e : fs ρ G with
    | ok ds G1 => rw [e] at h; simp only [Res.bind] at h ⊢; rw [if_pos (hfs _ _ _ _ e)]; exact h
    | ex _ _ _ => rw [e] at h; exact h
    | bad => rw [e] at h; exact h
  have len2 : ∀ {ρ : Env} {G : Hpp} {QQ : R → List Addr → Hpp → Hp → V → Prop} {ι : List Addr} {H : Hp} {k : List D → Hpp → Res R}, Post X.prog X.w X.K (RR X.prog X.w X.K) XC W ι H QQ ((gs ρ G).bind k) → Post X.prog X.w X.K (RR X.prog X.w X.K) XC W ι H QQ ((gs ρ G).bind fun ds G1 => if ds.length = ks.length then k ds G1 else .bad) := by
    intro ρ G QQ ι H k h
    cases e : gs ρ G with
    | ok ds G1 => rw [e] at h; simp only [Res.bind] at h ⊢; rw [if_pos (hgs _ _ _ _ e)]; exact h
    | ex _ _ _ => rw [e] at h; exact h
    | bad => rw [e] at h; exact h
  obtain ⟨⟨ds0, dvs, hd1, hd2, hbt⟩, hlen⟩ := hb
  have fin : ∀ (pins : List (Addr × Obj)) (s : Shared) (σ : L2.St) (ι : List Addr) (G : Hpp) (H : Hp) (vs zs : List V) (us ws : List Value) (ds es : List D) (QQ : R → List Addr → Hpp → Hp → V → Prop), Inv X pins σ H s → HR X.prog X.w X.K ι G H → Vals vs us → Vals zs ws → RVs X.K ι H vs ds → RVs X.K ι H zs es → ds.length = n → es.length = ks.length →
      Post X.prog X.w X.K (RR X.prog X.w X.K) XC W ι H QQ ((CF f (ds ++ es ++ dd) G).bind fun d G3 => okV d G3) → wpAny (model X.prog X.w) X.A (call (.ref fp) us (ks.zip ws)) (EP X pins σ (QV QQ)) X.xe s := by
    intro pins s σ ι G H vs zs us ws ds es QQ I hr' rv rw' q1 q2 l1 l2 h
    have rall : Vals (vs ++ zs ++ dvs) (us ++ ws ++ ds0) := (rv.append rw').append hd1
    have lus : us.length = n := by rw [← rv.length, q1.length, l1]
    have lws : ws.length = ks.length := by rw [← rw'.length, q2.length, l2]
    have hsp : spL X.prog X.w X.K XC CF f ps.length (vs ++ zs ++ dvs) H (QV QQ) W := by
      refine ⟨ι, G, ds ++ es ++ dd, hr', (q1.append q2).append (hd2 ι H), ?_, (post_val h).imp fun d ι' G' H' v q => ⟨_, _, _, q⟩⟩
      rw [List.length_append, List.length_append, q1.length, q2.length, (hd2 ι H).length, l1, l2]
      exact hlen
    refine wpAny_call (codeAny_mono (F.run X.A X.stack s H ⟨us, ks.zip ws⟩ (us ++ ws ++ ds0) (vs ++ zs ++ dvs) (QV QQ) W hr I.env0 (hbt s us ws I.kIn lus lws) rall hsp) fun r s' hq => ?_)
    cases r with
    | error e => exact hx pins σ H s e s' I hq
    | ok fl =>
      cases fl with
      | ret u => exact I.after hq
      | next => exact False.elim hq
      | brk => exact False.elim hq
      | cont => exact False.elim hq
  refine ⟨fun pins s σ H Q I ⟨ι, ρ, G, hr', er, h⟩ => ?_⟩
  refine wpAny_Call_Name_kw (ld_glob I hg hm ?_ hdb)
  have h := len1 h
  cases args with
  | nil =>
    have hnil := hnil rfl
    subst hnil
    have l1 : ([] : List D).length = n := hfs ρ G [] G rfl
    have h : Post X.prog X.w X.K (RR X.prog X.w X.K) XC W ι H (fun _ _ _ H' v => Q v H') (if ([] : List D).length = n then (gs ρ G).bind fun zs G2 => (CF f ([] ++ zs ++ dd) G2).bind fun d G3 => okV d G3 else .bad) := h
    rw [if_pos l1] at h
    have h := len2 h
    refine PySem.W.callWith_KW0 (h₀ := X.base) I.ok.mod.kin hk n1 (thn (hkw.run pos pins s σ H _ I (step hr' er h)) fun ws s2 ⟨zs, H2, I2, r2, es, ι2, G2, f2, hr2, er2, q2, h2⟩ => ⟨I2.kIn, ?_⟩) (by rw [hpl, n3]; rfl)
    dsimp only at h2
    split at h2
    · rename_i l2
      rw [n2]
      exact thn (fin pins s2 σ ι2 G2 H2 [] zs [] ws [] es _ I2 hr2 .nil r2 .nil q2 l1 l2 (h2.shift hr2 f2 (backR f2 hr2))) fun _ _ e => ep_of e
    · exact h2.elim
  | cons e r =>
    refine PySem.W.callWith_KW (h₀ := X.base) I.ok.mod.kin hk n1 (thn (ha.run pos pins s σ H _ I (step hr' er h)) fun us s1 ⟨vs, H1, I1, r1, ds, ι1, G1, f1, hr1, er1, q1, h1⟩ => ?_) (by rw [hpl, n3]; rfl) (hst e r rfl)
    dsimp only at h1
    split at h1
    · rename_i l1
      have h1 := len2 h1
      refine thn (hkw.run pos pins s1 σ H1 _ I1 (step2 f1 hr1 er1 (backR f1 hr1) h1)) fun ws s2 ⟨zs, H2, I2, r2, es, ι2, G2, f2, hr2, er2, q2, h2⟩ => ⟨I2.kIn, ?_⟩
      dsimp only at h2
      split at h2
      · rename_i l2
        rw [n2]
        exact thn (fin pins s2 σ ι2 G2 H2 vs zs us ws ds es _ I2 hr2 r1 r2 (RVs.go hr1 f2 q1) q2 l1 l2 (h2.shift hr2 f2 (backR f2 hr2))) fun _ _ e => ep_of e
      · exact h2.elim
    · exact h1.elim
theorem lstM_ty {r : R} {x : V} {H0 : Hp} (hr : HR X.prog X.w X.K ι G H) (h : RR X.prog X.w X.K H0 ι H x r) (e : (lstM r G).isSome = true) : tyV X.K "list" x H := by
  cases q : lstM r G with
  | none => rw [q] at e; cases e
  | some ds =>
    obtain ⟨a, xs, rfl, h1, _⟩ := rr_lstM hr h q
    exact .inl ⟨rfl, xs, SqL.of h1⟩
variable (hu : X.A.units + 150 < cLine)
include hu
/-- o.m(a), of a list -/
theorem x_meth1 {m : M1} {o : Expr} {fo : Env → Hpp → Res R} {apos cpos : Pos} (slot : Slot "list" m.nm m.id) (hty : typeOf (.builtin m.id) = pure (.type "method_descriptor")) (ho : PE X o (tR X XC W fo)) (ha : PE X a (tR X XC W fa))
    (hbase : attributeBase o m.nm X.env (eval o X.env) = eval o X.env) (hline : (apos.endLine == cpos.line) = true) (hs : starEach [a] X.env = [(false, eval a X.env)]) :
    PE X (.Call (.Attribute o m.nm apos) [a] [] cpos) (tR X XC W fun ρ G => (fo ρ G).bind fun x G1 => if (lstM x G1).isSome = true then (fa ρ G1).bind fun y G2 => meth1R m x y G2 else .bad) := by
  have hs0 : starEach (a :: []) X.env = (false, eval a X.env) :: starEach [] X.env := hs
  refine ⟨fun pins s σ H Q I ⟨ι, ρ, G, hr, er, h⟩ => ?_⟩
  refine wpAny_Call_method_late hbase (by rw [hs]; rfl) hline rfl (thn (ho.run pins s σ H _ I (step hr er h)) fun v s1 ⟨x, H1, I1, r1, rx, ι1, G1, f1, hr1, er1, q1, h1⟩ => ?_)
  dsimp only at h1
  split at h1
  · rename_i hL
    obtain ⟨t1, t2⟩ := tyV_is I1 r1 (lstM_ty hr1 q1 hL)
    refine ⟨"list", m.id, PySem.F.plainAttrs_list, slot, hty, t1, t2, ?_⟩
    rw [hs]
    refine Calls.callWith_builtin rfl (Calls.evalArgs_plain (Calls.spliced_cons (thn (ha.run pins s1 σ H1 _ I1 (step2 f1 hr1 er1 (backR f1 hr1) h1)) fun u s2 ⟨y, H2, I2, r2, ry, ι2, G2, f2, hr2, er2, q2, h2⟩ => Calls.spliced_nil ?_)))
    exact thn (meth1_ok hu I2 hr2 f2 r1 r2 (q1.go hr1 f2) q2 h2) fun _ _ e => ep_of e
  · exact h1.elim
omit hu in
theorem x_meth0 {m : M0} {o : Expr} {fo : Env → Hpp → Res R} {apos cpos : Pos} (slot : Slot "list" m.nm m.id) (hty : typeOf (.builtin m.id) = pure (.type "method_descriptor")) (ho : PE X o (tR X XC W fo))
    (hbase : attributeBase o m.nm X.env (eval o X.env) = eval o X.env) (hline : (apos.endLine == cpos.line) = true) :
    PE X (.Call (.Attribute o m.nm apos) [] [] cpos) (tR X XC W fun ρ G => (fo ρ G).bind fun x G1 => if (lstM x G1).isSome = true then meth0R m x G1 else .bad) := by
  refine ⟨fun pins s σ H Q I ⟨ι, ρ, G, hr, er, h⟩ => ?_⟩
  refine wpAny_Call_method0_late hbase hline (thn (ho.run pins s σ H _ I (step hr er h)) fun v s1 ⟨x, H1, I1, r1, rx, ι1, G1, f1, hr1, er1, q1, h1⟩ => ?_)
  dsimp only at h1
  split at h1
  · rename_i hL
    obtain ⟨t1, t2⟩ := tyV_is I1 r1 (lstM_ty hr1 q1 hL)
    refine ⟨"list", m.id, PySem.F.plainAttrs_list, slot, hty, t1, t2, ?_⟩
    exact Calls.callWith_builtin rfl (PySem.evalArgs_none (thn (meth0_ok I1 hr1 f1 r1 q1 h1) fun _ _ e => ep_of e))
  · exact h1.elim
end
end LK

set_option Elab.async false
set_option linter.all false
set_option autoImplicit false
set_option maxRecDepth 100000
set_option maxHeartbeats 4000000
/-! LkIter: what a loop walks. -/
namespace LK
open PySem PySem.Spec PyProof.Rows L2

/-! ### enumerate over a tuple -/
theorem meets_enum1 {v : Value} {o : Obj} {H : Heap → Prop} (B : Begins v o H) :
    Meets (Builtin.«enumerate.__new__» ⟨[.type "enumerate", v], []⟩) (fun _ R s => H s.heap ∧
      R (.ok (.ret (.ref (s.heap.push o).objs.size))) { s with heap := (s.heap.push o).push { cls := .type "enumerate", data := .fields #[.none, .bool false, .ref s.heap.objs.size, rawInt 0, .none, .none] } }) :=
  .of_wp fun prog w A R s h => by
    obtain ⟨hp, g, d, tk, os⟩ := s; obtain ⟨h1, h⟩ := h
    have hsub := sub_enumerate
    have q1 : ∀ {A' : Around} {E : Value → Shared → Prop} {Q : Value → Shared → Prop}, Q (.ref hp.objs.size) ⟨hp.push o, g, d, tk, os⟩ → wpAny (model prog w) A' (pyIter v) Q E ⟨hp, g, d, tk, os⟩ :=
      fun q => B.iter prog w _ _ ⟨hp, g, d, tk, os⟩ _ h1 q
    wp_walk using q1
    refine wpAny_stack_any fun st => wpAny_pure ?_
    split
    · rename_i c _ _ _ _ _
      cases (c == Value.type "enumerate")
      · wp_walk using q1
        exact ⟨_, rfl, h⟩
      · wp_walk using q1
        exact ⟨_, rfl, h⟩
    · wp_walk using q1
      exact ⟨_, rfl, h⟩
section
variable {prog : Program} {w : World} {A : Around} {E : Value → Shared → Prop} {s : Shared}
theorem enum_begins1 {v : Value} {o : Obj} {H : Heap → Prop} {Q : Value → Shared → Prop} (B : Begins v o H) (h1 : H s.heap)
    (h : ∀ h', IsEnum h' (s.heap.objs.size + 1) s.heap.objs.size 0 .none → h'.get? s.heap.objs.size = some o → h'.objs.size = s.heap.objs.size + 2 →
      (∀ b o, s.heap.get? b = some o → h'.get? b = some o) → Q (.ref (s.heap.objs.size + 1)) { s with heap := h' }) :
    wpAny (model prog w) A (call (.type "enumerate") [v]) Q E s := by
  refine callType_new F.called_enumerate (by decide) (F.typeCall_enumerate_1 _) (F.newCall_enumerate_1 _) (fun obj => F.args_object_init_2 obj _) F.entry_enumerate_new
    (meets_enum1 B) ⟨h1, ?_⟩
  have hz : (s.heap.push o).objs.size = s.heap.objs.size + 1 := Heap.size_push ..
  show _ ∧ _
  rw [hz]
  have he : IsEnum ((s.heap.push o).push { cls := .type "enumerate", data := .fields #[.none, .bool false, .ref s.heap.objs.size, rawInt 0, .none, .none] }) (s.heap.objs.size + 1) s.heap.objs.size 0 .none := by
    have := Heap.get?_push_size (s.heap.push o) (o := { cls := .type "enumerate", data := .fields #[.none, .bool false, .ref s.heap.objs.size, rawInt 0, .none, .none] }) rfl
    rw [hz] at this; exact this
  refine ⟨⟨_, he, rfl⟩, h _ he (Heap.get?_push_of_some _ (Heap.get?_push_size _ B.free)) (by rw [Heap.size_push, hz]) fun b o x => Heap.get?_push_of_some _ (Heap.get?_push_of_some _ x)⟩
end
/-- the tuple at a, each item in a new pair -/
def ItE (Sq : Hp → List V → Prop) : It :=
  ⟨fun i H => ∃ (xs : List V) (x : V), Sq H xs ∧ xs[i]? = some x, fun i H v H' => ∃ T x, v = .ref T ∧ H T = none ∧ H' = upd H T (.tup [.int (i : Nat), x]) ∧ ∀ xs, Sq H xs → xs[i]? = some x, fun i H => ∃ xs : List V, Sq H xs ∧ xs.length ≤ i⟩
theorem turn_enumT {P : Program} {w : World} {K : PySem.W.Frag} {elts : List Expr} {kk : Nat} {tpos : Pos} (a e it : Addr) :
    Turn P w K (.Tuple elts kk tpos) (ItE fun H xs => SqT K H a xs) [e, it] e (fun i h => (∃ old, IsEnum h e it ((i : Nat) : Int) old) ∧ h.IsTupleIter it a i ∧ e ≠ it ∧ a ≠ it ∧ e ≠ a) where
  mem := by simp
  obj := fun i h st b hb => by
    obtain ⟨⟨old, he⟩, ⟨o, ho, hc, hd⟩, _⟩ := st
    have e' : b = e ∨ b = it := by simpa using hb
    rcases e' with z | z
    · rw [z]; exact ⟨_, he, fun v q => nomatch q⟩
    · rw [z]; exact ⟨o, ho, fun v q => by rw [hd] at q; cases q⟩
  keep := fun i h h' st k => let ⟨⟨old, he⟩, hi, hne⟩ := st; ⟨⟨old, k e (by simp) _ he⟩, hi.at fun o q => k it (by simp) o q, hne⟩
  item := by
    intro X hP hw hK hc i pins s σ H E I hf st hg
    subst hP hw hK
    obtain ⟨⟨old, he⟩, hit, hne, hai, hea⟩ := st
    obtain ⟨xs, x, hq, hx⟩ := hg
    obtain ⟨its, rv, p, hz⟩ := I.tuple hq
    obtain ⟨u, hu, ru⟩ := rv.get hx
    have hel : e < s.heap.objs.size := Heap.lt_size he
    have hil : it < s.heap.objs.size := by obtain ⟨_, q, _⟩ := hit; exact Heap.lt_size q
    have hlt : i < its.toArray.size := by simpa using (List.getElem?_eq_some_iff.mp hu).1
    have p' : s.heap.IsTuple a its.toArray := p
    refine wpAny_pyNext_enum_itemD (Draws.tuple (A := X.A.in1) (I.ok.hd hc) it a hai its.toArray) he ⟨hit, p'⟩ hlt hne (by simp [hne, hea]) fun x' h' tk hP ho hs' hT hsz hk => ?_
    have hx' : x' = u := by
      rw [List.getElem?_toArray, hu] at hP
      exact (Option.some.inj hP).symm
    subst hx'
    refine ⟨_, rfl, wpAny_letOwnedTupleGo_enum (s := { s with heap := h', toks := tk + 1 }) ho fun h'' he' sb => ?_⟩
    have hT2 : h''.get? s.heap.objs.size = some { cls := .type "tuple", data := .seq #[.int i tk, x'] } := (sb.2 _ (Nat.ne_of_gt hel)).trans hT
    have new : ObjOk X.prog X.w (upd H s.heap.objs.size (.tup [.int (i : Nat), x])) h'' s.heap.objs.size (.tup [.int (i : Nat), x]) :=
      ⟨by show 2 ≤ sizeLine; decide, [.int i tk, x'], .cons ⟨_, rfl⟩ (.cons ru .nil), ⟨_, hT2, rfl, _, rfl⟩⟩
    have I1 : Inv X pins σ (upd H s.heap.objs.size (.tup [.int (i : Nat), x])) { s with heap := h'', toks := tk + 1 } :=
      I.turnedNew (ch := [e, it]) (fun b ob hb q => (sb.2 b (fun z => hb (by simp [z]))).trans (hk b ob (fun z => hb (by simp [z])) (fun z => hb (by simp [z])) q)) hf (Nat.le_refl _) new
    refine ⟨.ref s.heap.objs.size, _, I1, rfl, ⟨_, x, rfl, I.hok.fresh (Nat.le_refl _), rfl, fun ys hy => by rw [I.tuple_inj hy hq]; exact hx⟩, ⟨⟨x', ?_⟩, hs'.1.at fun o q => (sb.2 it (Ne.symm hne)).trans q, hne, hai, hea⟩, fun b hb => ?_⟩
    · have e1 : ((i + 1 : Nat) : Int) = (i : Int) + 1 := by omega
      rw [e1]; exact he'
    · have hb' : b < s.heap.objs.size := by
        have e' : b = e ∨ b = it := by simpa using hb
        rcases e' with z | z
        · rw [z]; exact hel
        · rw [z]; exact hil
      rw [upd_ne (Nat.ne_of_lt hb')]
      exact (hf b hb).1
  done := by
    intro X hP hw hK hc i pins s σ H E I hf st hg
    subst hP hw hK
    obtain ⟨⟨old, he⟩, hit, hne, hai, hea⟩ := st
    obtain ⟨xs, hq, hx⟩ := hg
    obtain ⟨its, rv, p, hz⟩ := I.tuple hq
    obtain ⟨f0, f1, f2, f3, f4, f5⟩ := hf it (by simp)
    have hl := rv.length
    have p' : s.heap.IsTuple a its.toArray := p
    have hT : s.TypeIs (.ref e) "enumerate" := ⟨_, he, rfl⟩
    unfold pyNext
    refine wpAny_bind (wpAny_attempt (wpAny_callSpecial?_slot (name := Str.ofString "__next__") hT F.slot_enumerate_next
      (wpAny_call_entry F.slot_enumerate_next hT F.entry_enumerate_next ?_ (F.args_enumerate_next_1 _))))
    show wpAny _ _ (field (.ref e) 2 >>= _) _ _ _
    refine wpAny_bind (wpAny_field he rfl (x := .ref it) rfl ?_)
    refine wpAny_bind (wpAny_nextOf_tuple_end (A := X.A.in1) (I.ok.hd hc) hit p' (by simp; omega) fun h' x he' hx' => ?_)
    obtain ⟨o, ho, hc⟩ := hx'
    refine wpAny_bind (wpAny_isInstance (T := "StopIteration") (b := true) ⟨o, ho, hc⟩ isSubtype_stop ?_)
    exact wpAny_pure ⟨rfl, I.turned (t' := s.toks) (fun b o hb q => he' b o hb q) f0 f1 f3 f4 f5⟩
  self := fun A i s Q E st h => let ⟨⟨_, he⟩, _⟩ := st; wpAny_pyIter_enum he h

/-! ### walks -/
section
variable (P : Program) (w : World) (K : PySem.W.Frag)
/-- how an iterator walks -/
def WR (ι : List Addr) (H : Hp) (J : It) (wk : Walk) : Prop := ∀ ι' G' H', Fr2 ι H ι' H' → HR P w K ι' G' H' → ∀ i, match wk.item i G' with
  | .stop => J.stop i H'
  | .bad => True
  | .yld d => J.go i H' ∧ ∀ x H'', J.yld i H' x H'' → Fr2 ι' H' ι' H'' ∧ HR P w K ι' G' H'' ∧ RV K ι' H'' x d
/-- .. over a list or a tuple -/
def LW (Sq : Hp → List V → Prop) (ι : List Addr) (H : Hp) (wk : Walk) : Prop := ∀ ι' G' H', Fr2 ι H ι' H' → HR P w K ι' G' H' → (∀ i, wk.item i G' = .bad) ∨ ∃ xs ds, Sq H' xs ∧ RVs K ι' H' xs ds ∧ ∀ i, wk.item i G' = match ds[i]? with
  | some d => .yld d
  | none => .stop
end
def ItS (Sq : Hp → List V → Prop) : It := ⟨fun i H => ∃ xs x, Sq H xs ∧ xs[i]? = some x, fun i H x H' => H' = H ∧ ∀ xs, Sq H xs → xs[i]? = some x, fun i H => ∃ xs, Sq H xs ∧ xs.length ≤ i⟩
def ItZ (Sq Sq2 : Hp → List V → Prop) : It :=
  ⟨fun i H => ∃ (xs ys : List V) (x y : V), Sq H xs ∧ Sq2 H ys ∧ xs[i]? = some x ∧ ys[i]? = some y,
    fun i H v H' => ∃ T x y, v = .ref T ∧ H T = none ∧ H' = upd H T (.tup [x, y]) ∧ (∀ xs, Sq H xs → xs[i]? = some x) ∧ ∀ ys, Sq2 H ys → ys[i]? = some y,
    fun i H => ∃ xs ys : List V, Sq H xs ∧ Sq2 H ys ∧ (xs.length ≤ i ∨ ys.length ≤ i)⟩
section
variable {P : Program} {w : World} {K : PySem.W.Frag} {ι ι' : List Addr} {G G' : Hpp} {H H' : Hp} {J : It} {wk wk2 : Walk} {Sq Sq2 : Hp → List V → Prop}
theorem WR.go (r : HR P w K ι' G' H') (f : Fr2 ι H ι' H') (h : WR P w K ι H J wk) : WR P w K ι' H' J wk := fun ι2 G2 H2 f2 r2 i => h ι2 G2 H2 (f.trans r f2) r2 i
theorem LW.s (h : LW P w K Sq ι H wk) : WR P w K ι H (ItS Sq) wk := fun ι' G' H' f r i => by
  rcases h ι' G' H' f r with h | ⟨xs, ds, h1, h2, h3⟩
  · rw [h i]; trivial
  · rw [h3 i]
    cases e : ds[i]? with
    | none => exact ⟨xs, h1, by rw [h2.length]; exact List.getElem?_eq_none_iff.mp e⟩
    | some d =>
      obtain ⟨x, e1, r1⟩ := h2.get e
      refine ⟨⟨xs, x, h1, e1⟩, fun y H'' ⟨e2, q⟩ => ?_⟩
      subst e2
      have e3 := q xs h1
      rw [e1] at e3; cases e3
      exact ⟨.refl, r, r1⟩
theorem rv_pair {x y : V} {d e : D} {T : Addr} (r : HR P w K ι G H) (hx : RV K ι H x d) (hy : RV K ι H y e) (hT : H T = none) : RV K ι (upd H T (.tup [x, y])) (.ref T) (.tup [d, e]) :=
  .tup (SqT.of upd_same) (.cons (hx.laid r hT) (.cons (hy.laid r hT) .nil))
theorem LW.e (h : LW P w K Sq ι H wk) : WR P w K ι H (ItE Sq) (.enum wk) := fun ι' G' H' f r i => by
  rcases h ι' G' H' f r with h | ⟨xs, ds, h1, h2, h3⟩
  · simp only [Walk.item, h i]
  · simp only [Walk.item, h3 i]
    cases e : ds[i]? with
    | none => exact ⟨xs, h1, by rw [h2.length]; exact List.getElem?_eq_none_iff.mp e⟩
    | some d =>
      obtain ⟨x, e1, r1⟩ := h2.get e
      refine ⟨⟨xs, x, h1, e1⟩, fun y H'' ⟨T, x', e2, hT, e3, q⟩ => ?_⟩
      subst e2 e3
      have e4 := q xs h1
      rw [e1] at e4; cases e4
      exact ⟨Fr2.laid hT, r.laid hT, rv_pair r (.int _) r1 hT⟩
theorem LW.z (h : LW P w K Sq ι H wk) (g : LW P w K Sq2 ι H wk2) : WR P w K ι H (ItZ Sq Sq2) (.zip wk wk2) := fun ι' G' H' f r i => by
  rcases h ι' G' H' f r with h | ⟨xs, ds, h1, h2, h3⟩
  · simp only [Walk.item, h i]
  · rcases g ι' G' H' f r with g | ⟨ys, es, g1, g2, g3⟩
    · simp only [Walk.item, h3 i, g i]
      cases ds[i]? <;> trivial
    · simp only [Walk.item, h3 i, g3 i]
      cases e : ds[i]? with
      | none =>
        have hl : xs.length ≤ i := by rw [h2.length]; exact List.getElem?_eq_none_iff.mp e
        cases e' : es[i]? with
        | none => exact ⟨xs, ys, h1, g1, .inl hl⟩
        | some d' => exact ⟨xs, ys, h1, g1, .inl hl⟩
      | some d =>
        cases e' : es[i]? with
        | none => exact ⟨xs, ys, h1, g1, .inr (by rw [g2.length]; exact List.getElem?_eq_none_iff.mp e')⟩
        | some d' =>
          obtain ⟨x, e1, r1⟩ := h2.get e
          obtain ⟨y, e1', r1'⟩ := g2.get e'
          refine ⟨⟨xs, ys, x, y, h1, g1, e1, e1'⟩, fun z H'' ⟨T, x', y', e2, hT, e3, q, q'⟩ => ?_⟩
          subst e2 e3
          have e4 := q xs h1
          rw [e1] at e4; cases e4
          have e5 := q' ys g1
          rw [e1'] at e5; cases e5
          exact ⟨Fr2.laid hT, r.laid hT, rv_pair r r1 r1' hT⟩
theorem wr_rng {lo : Int} {n : Nat} : WR P w K ι H (Itr lo n) (.rng lo n) := fun ι' G' H' f r i => by
  simp only [Walk.item]
  by_cases hi : i < n
  · rw [if_pos hi]
    refine ⟨hi, fun x H'' ⟨e1, e2⟩ => ?_⟩
    subst e1 e2
    exact ⟨.refl, r, .int _⟩
  · rw [if_neg hi]
    exact Nat.le_of_not_lt hi
/-- what a value that is walked is -/
theorem walk_ok {x : V} {r : R} {H0 : Hp} (hr : HR P w K ι G H) (h : RR P w K H0 ι H x r) (e : toWalk r G = .ok wk G') : G' = G ∧ ∃ a xs, x = .ref a ∧
    ((r.isTup = true ∧ SqT K H a xs ∧ LW P w K (fun H xs => SqT K H a xs) ι H wk) ∨ (r.isTup = false ∧ SqL K H a xs ∧ LW P w K (fun H xs => SqL K H a xs) ι H wk)) := by
  cases r with
  | val d =>
    cases d with
    | tup ds =>
      simp only [toWalk, Res.ok.injEq] at e
      obtain ⟨e1, e2⟩ := e
      subst e1
      obtain ⟨a, xs, e3, h1, h2⟩ : ∃ a xs, x = .ref a ∧ SqT K H a xs ∧ RVs K ι H xs ds := by cases h with | tup h1 h2 => exact ⟨_, _, rfl, h1, h2⟩
      exact ⟨e2.symm, a, xs, e3, .inl ⟨rfl, h1, fun ι' G' H' f r => .inr ⟨xs, ds, SqT.go hr f h1, h2.go hr f, fun i => rfl⟩⟩⟩
    | frl ds =>
      simp only [toWalk, Res.ok.injEq] at e
      obtain ⟨e1, e2⟩ := e
      subst e1
      obtain ⟨a, xs, e3, h1, h2⟩ : ∃ a xs, x = .ref a ∧ Frl K H a xs ∧ RVs K ι H xs ds := by cases h with | frl h1 h2 => exact ⟨_, _, rfl, h1, h2⟩
      exact ⟨e2.symm, a, xs, e3, .inr ⟨rfl, h1.sql, fun ι' G' H' f r => .inr ⟨xs, ds, (Frl.go hr f h1).sql, h2.go hr f, fun i => rfl⟩⟩⟩
    | ref n =>
      cases h with
      | ref hn =>
        cases hg : G[n]? with
        | none => simp [toWalk, hg] at e
        | some c =>
          cases c with
          | lst es =>
            simp only [toWalk, hg, Res.ok.injEq] at e
            obtain ⟨e1, e2⟩ := e
            subst e1
            obtain ⟨xs, h1, h2⟩ := hr.cell n _ _ hg hn
            refine ⟨e2.symm, _, xs, rfl, .inr ⟨rfl, SqL.of h1, fun ι' G' H' f r => ?_⟩⟩
            have hn' := pre_get f.pre hn
            obtain ⟨c', hg', hc'⟩ := r.at hn'
            cases c' with
            | lst ds' =>
              obtain ⟨xs', k1, k2⟩ := hc'
              refine .inr ⟨xs', ds', SqL.of k1, k2, fun i => ?_⟩
              simp only [Walk.item, hg']
              try (cases ds'[i]? <;> rfl)
            | dct t kvs => exact .inl fun i => by simp only [Walk.item, hg']
            | set ds' => exact .inl fun i => by simp only [Walk.item, hg']
          | dct t kvs => simp [toWalk, hg] at e
          | set es => simp [toWalk, hg] at e
    | _ => simp [toWalk] at e
  | newL ds =>
    simp only [toWalk, Res.ok.injEq] at e
    obtain ⟨e1, e2⟩ := e
    subst e1
    obtain ⟨a, xs, h1, h2, h3, h4, h5⟩ := h
    exact ⟨e2.symm, a, xs, h1, .inr ⟨rfl, SqL.of h2, fun ι' G' H' f r => .inr ⟨xs, ds, SqL.of (f.ext _ _ h2 h5), h3.go hr f, fun i => rfl⟩⟩⟩
  | newD t kvs => simp [toWalk] at e
  | newS ds => simp [toWalk] at e
theorem toWalk_ex {r : R} {c : Str} {d : D} : toWalk r G ≠ .ex c d G' := by
  intro h
  unfold toWalk at h
  split at h <;> first | (cases h; done) | (split at h <;> cases h)
end
section
variable {X : Cx} {XC : XCT} {W : WT} {pins : List (Addr × Obj)} {σ : L2.St} {s : Shared} {ι : List Addr} {ρ : Env} {G : Hpp} {H : Hp} {tg : Expr}
  {a b e : Expr} {fa fb : Env → Hpp → Res R} {pos : Pos}
def RelW (X : Cx) : Hp → List Addr → Hp → It → Walk → Prop := fun _ ι H J wk => WR X.prog X.w X.K ι H J wk
abbrev tI (X : Cx) (XC : XCT) (W : WT) (f : Env → Hpp → Res Walk) : TI := tX X XC W (RelW X) f
theorem it_list {ad : Addr} {xs : List V} {R : It → Hp → Prop} (I : Inv X pins σ H s) (hq : SqL X.K H ad xs) (q : R (ItS fun H xs => SqL X.K H ad xs) H) : wpAny (model X.prog X.w) X.A (pyIter (.ref ad)) (PIE X pins σ tg R) X.xe s := by
  obtain ⟨its, rv, p, hz⟩ := I.list hq
  refine wpAny_pyIter_list p.isList ?_
  refine ⟨s.heap.objs.size, [s.heap.objs.size], _, _, H, rfl, I.kept (t' := s.toks) fun b o e => Heap.get?_push_of_some _ e, turn_list ad _, ⟨_, Heap.get?_push_size _ rfl, rfl, rfl⟩, fun b hb => ?_, q⟩
  have e : b = s.heap.objs.size := by simpa using hb
  subst e
  exact I.fpOk (Nat.le_refl _) (I.hok.fresh (Nat.le_refl _))
theorem it_tup {ad : Addr} {xs : List V} {R : It → Hp → Prop} (I : Inv X pins σ H s) (hq : SqT X.K H ad xs) (q : R (ItS fun H xs => SqT X.K H ad xs) H) : wpAny (model X.prog X.w) X.A (pyIter (.ref ad)) (PIE X pins σ tg R) X.xe s := by
  obtain ⟨its, rv, p, hz⟩ := I.tuple hq
  refine wpAny_pyIter_tuple (show s.heap.IsTuple ad its.toArray from p) ?_
  refine ⟨s.heap.objs.size, [s.heap.objs.size], _, _, H, rfl, I.kept (t' := s.toks) fun b o e => Heap.get?_push_of_some _ e, turn_tuple ad _, ⟨_, Heap.get?_push_size _ rfl, rfl, rfl⟩, fun b hb => ?_, q⟩
  have e : b = s.heap.objs.size := by simpa using hb
  subst e
  exact I.fpOk (Nat.le_refl _) (I.hok.fresh (Nat.le_refl _))
theorem i_ex (he : PE X e (tR X XC W fa)) : PI X tg e (tI X XC W fun ρ G => (fa ρ G).bind toWalk) := by
  refine ⟨fun pins s σ H R I ⟨ι, ρ, G, hr, er, h⟩ => thn (he.run pins s σ H _ I (step hr er h)) fun v s1 ⟨x, H1, I1, r1, q, ι1, G1, f1, hr1, er1, q1, h1⟩ => ?_⟩
  cases ew : toWalk q G1 with
  | ok wk G2 =>
    rw [ew] at h1
    obtain ⟨e2, ad, xs, ex, hs⟩ := walk_ok hr1 q1 ew
    subst ex
    cases r1
    rcases hs with ⟨_, hs, hl⟩ | ⟨_, hs, hl⟩
    · exact it_tup I1 hs (h1 ι1 H1 _ f1 (e2 ▸ hr1) hl.s)
    · exact it_list I1 hs (h1 ι1 H1 _ f1 (e2 ▸ hr1) hl.s)
  | ex c d G2 => exact (toWalk_ex ew).elim
  | bad => rw [ew] at h1; exact h1.elim
theorem i_rng1 {p : Pos} (hb : Blt X "range" (.type "range")) (ha : PE X a (tR X XC W fa)) (hs : starEach [a] X.env = [(false, eval a X.env)]) :
    PI X tg (.Call (.Name "range" p) [a] [] pos) (tI X XC W fun ρ G => (fa ρ G).bind fun x G1 => match x with
    | .val (.int j) => if -(LIM : Int) ≤ j ∧ j ≤ LIM then .ok (.rng 0 j.toNat) G1 else .bad
    | _ => .bad) := by
  have e0 : starEach (a :: []) X.env = (false, eval a X.env) :: starEach [] X.env := hs
  refine ⟨fun pins s σ H R I ⟨ι, ρ, G, hr, er, h⟩ => ?_⟩
  refine Call_ (ld_blt I hb.gl hb.mg hb.bv (PyProof.Rows.callWith_type1 ?_ e0 rfl) hb.nn hb.nd)
  rw [hs]
  show wpAny _ _ (spliced ((false, eval a X.env) :: backTo pos [])) _ _ s
  refine Calls.spliced_cons (thn (ha.run pins s σ H _ I (step hr er h)) fun u s1 ⟨x, H1, I1, r1, q, ι1, G1, f1, hr1, er1, q1, h1⟩ => Calls.spliced_nil ?_)
  dsimp only at h1
  split at h1
  · rename_i j
    split at h1
    · rename_i hj
      cases rv_int q1
      obtain ⟨t, rfl⟩ := r1
      have hL : -(1000000 : Int) ≤ j ∧ j ≤ (1000000 : Int) := hj
      exact call_range_1 (range_it I1 (by omega) (by omega) (by omega) (by omega) (by simpa using h1 ι1 H1 _ f1 hr1 wr_rng))
    · exact h1.elim
  · exact h1.elim
theorem i_rng2 {p : Pos} (hb : Blt X "range" (.type "range")) (ha : PE X a (tR X XC W fa)) (hb2 : PE X b (tR X XC W fb)) (hs : starEach [a, b] X.env = [(false, eval a X.env), (false, eval b X.env)]) (hs2 : starEach [b] X.env = [(false, eval b X.env)]) :
    PI X tg (.Call (.Name "range" p) [a, b] [] pos) (tI X XC W fun ρ G => (fa ρ G).bind fun x G1 => (fb ρ G1).bind fun y G2 => match x, y with
    | .val (.int i), .val (.int j) => if (-(LIM : Int) ≤ i ∧ i ≤ LIM) ∧ -(LIM : Int) ≤ j ∧ j ≤ LIM then .ok (.rng i (j - i).toNat) G2 else .bad
    | _, _ => .bad) := by
  have e0 : starEach (a :: [b]) X.env = (false, eval a X.env) :: starEach [b] X.env := by rw [hs, hs2]
  have hpl : (backTo pos (starEach [b] X.env)).any (·.1) = false := by rw [hs2]; rfl
  refine ⟨fun pins s σ H R I ⟨ι, ρ, G, hr, er, h⟩ => ?_⟩
  refine Call_ (ld_blt I hb.gl hb.mg hb.bv (PyProof.Rows.callWith_type1 ?_ e0 hpl) hb.nn hb.nd)
  rw [hs]
  show wpAny _ _ (spliced ((false, eval a X.env) :: (false, eval b X.env) :: backTo pos [])) _ _ s
  refine Calls.spliced_cons (thn (ha.run pins s σ H _ I (step hr er h)) fun u s1 ⟨x, H1, I1, r1, q, ι1, G1, f1, hr1, er1, q1, h1⟩ => ?_)
  refine Calls.spliced_cons (thn (hb2.run pins s1 σ H1 _ I1 (step2 f1 hr1 er1 (fun _ _ _ _ z => z) h1)) fun u2 s2 ⟨y, H2, I2, r2, q', ι2, G2, f2, hr2, er2, q2, h2⟩ => Calls.spliced_nil ?_)
  dsimp only at h2
  split at h2
  · rename_i i j _
    split at h2
    · rename_i hj
      cases rv_int (RR.go (H0 := H) hr1 f2 q1)
      cases rv_int q2
      obtain ⟨t, rfl⟩ := r1
      obtain ⟨t', rfl⟩ := r2
      have hL : (-(1000000 : Int) ≤ i ∧ i ≤ (1000000 : Int)) ∧ -(1000000 : Int) ≤ j ∧ j ≤ (1000000 : Int) := hj
      exact call_range_2 (range_it I2 (by omega) (by omega) (by omega) (by omega) (h2 ι2 H2 _ f2 hr2 wr_rng))
    · exact h2.elim
  · exact h2.elim
theorem i_enum {p tpos : Pos} {elts : List Expr} {kk : Nat} (hb : Blt X "enumerate" (.type "enumerate")) (ha : PE X a (tR X XC W fa)) (hs : starEach [a] X.env = [(false, eval a X.env)]) :
    PI X (.Tuple elts kk tpos) (.Call (.Name "enumerate" p) [a] [] pos) (tI X XC W fun ρ G => (fa ρ G).bind fun x G1 => (toWalk x G1).bind fun w G2 => .ok (.enum w) G2) := by
  have e0 : starEach (a :: []) X.env = (false, eval a X.env) :: starEach [] X.env := hs
  refine ⟨fun pins s σ H R I ⟨ι, ρ, G, hr, er, h⟩ => ?_⟩
  refine Call_ (ld_blt I hb.gl hb.mg hb.bv (PyProof.Rows.callWith_type1 ?_ e0 rfl) hb.nn hb.nd)
  rw [hs]
  show wpAny _ _ (spliced ((false, eval a X.env) :: backTo pos [])) _ _ s
  refine Calls.spliced_cons (thn (ha.run pins s σ H _ I (step hr er h)) fun u s1 ⟨x, H1, I1, r1, q, ι1, G1, f1, hr1, er1, q1, h1⟩ => Calls.spliced_nil ?_)
  dsimp only at h1
  have fresh2 : ∀ b ∈ [s1.heap.objs.size + 1, s1.heap.objs.size], FpOk X pins H1 b := fun b hb => by
    have e' : b = s1.heap.objs.size + 1 ∨ b = s1.heap.objs.size := by simpa using hb
    have hle : s1.heap.objs.size ≤ b := by
      rcases e' with z | z
      · rw [z]; exact Nat.le_add_right _ _
      · rw [z]; exact Nat.le_refl _
    exact I1.fpOk hle (I1.hok.fresh hle)
  cases ew : toWalk q G1 with
  | ok wk G2 =>
    rw [ew] at h1
    obtain ⟨e2, ad, xs, ex, hs⟩ := walk_ok hr1 q1 ew
    subst ex
    cases r1
    rcases hs with ⟨_, hs, hl⟩ | ⟨_, hs, hl⟩
    · obtain ⟨its, rv, p', hz⟩ := I1.tuple hs
      have p2 : s1.heap.IsTuple ad its.toArray := p'
      have hlt : ad < s1.heap.objs.size := by obtain ⟨o, ho, _⟩ := p2; exact Heap.lt_size ho
      refine enum_begins1 (begins_tuple ad its.toArray) p2 fun h' he hit hsz hk => wpAny_pyIter_enum he ?_
      have I2 : Inv X pins σ H1 { s1 with heap := h' } := I1.kept (t' := s1.toks) hk
      exact ⟨s1.heap.objs.size + 1, [s1.heap.objs.size + 1, s1.heap.objs.size], _, _, H1, rfl, I2, turn_enumT ad (s1.heap.objs.size + 1) s1.heap.objs.size, ⟨⟨.none, he⟩, ⟨_, hit, rfl, rfl⟩, Nat.succ_ne_self _, Nat.ne_of_lt hlt, Nat.ne_of_gt (Nat.lt_succ_of_lt hlt)⟩, fresh2, h1 ι1 H1 _ f1 (e2 ▸ hr1) hl.e⟩
    · obtain ⟨its, rv, p', hz⟩ := I1.list hs
      refine call_enumerate_list p'.isList fun h' he hit hsz hk => wpAny_pyIter_enum he ?_
      have I2 : Inv X pins σ H1 { s1 with heap := h' } := I1.kept (t' := s1.toks) hk
      exact ⟨s1.heap.objs.size + 1, [s1.heap.objs.size + 1, s1.heap.objs.size], _, _, H1, rfl, I2, turn_enum ad (s1.heap.objs.size + 1) s1.heap.objs.size, ⟨⟨.none, he⟩, hit, Nat.succ_ne_self _⟩, fresh2, h1 ι1 H1 _ f1 (e2 ▸ hr1) hl.e⟩
  | ex c d G2 => exact (toWalk_ex ew).elim
  | bad => rw [ew] at h1; exact h1.elim
theorem i_zip {p tpos : Pos} {elts : List Expr} {kk : Nat} (hb : Blt X "zip" (.type "zip")) (ha : PE X a (tR X XC W fa)) (hb2 : PE X b (tR X XC W fb)) (hs : starEach [a, b] X.env = [(false, eval a X.env), (false, eval b X.env)]) (hs2 : starEach [b] X.env = [(false, eval b X.env)]) :
    PI X (.Tuple elts kk tpos) (.Call (.Name "zip" p) [a, b] [] pos) (tI X XC W fun ρ G => (fa ρ G).bind fun x G1 => (fb ρ G1).bind fun y G2 => if x.isTup = y.isTup then (toWalk x G2).bind fun w G3 => (toWalk y G3).bind fun v G4 => .ok (.zip w v) G4 else .bad) := by
  have e0 : starEach (a :: [b]) X.env = (false, eval a X.env) :: starEach [b] X.env := by rw [hs, hs2]
  have hpl : (backTo pos (starEach [b] X.env)).any (·.1) = false := by rw [hs2]; rfl
  refine ⟨fun pins s σ H R I ⟨ι, ρ, G, hr, er, h⟩ => ?_⟩
  refine Call_ (ld_blt I hb.gl hb.mg hb.bv (PyProof.Rows.callWith_type1 ?_ e0 hpl) hb.nn hb.nd)
  rw [hs]
  show wpAny _ _ (spliced ((false, eval a X.env) :: (false, eval b X.env) :: backTo pos [])) _ _ s
  refine Calls.spliced_cons (thn (ha.run pins s σ H _ I (step hr er h)) fun u s1 ⟨x, H1, I1, r1, q, ι1, G1, f1, hr1, er1, q1, h1⟩ => ?_)
  refine Calls.spliced_cons (thn (hb2.run pins s1 σ H1 _ I1 (step2 f1 hr1 er1 (fun _ _ _ _ z => z) h1)) fun u2 s2 ⟨y, H2, I2, r2, q', ι2, G2, f2, hr2, er2, q2, h2⟩ => Calls.spliced_nil ?_)
  dsimp only at h2
  split at h2
  · rename_i hk
    have q1' := RR.go hr1 f2 q1
    cases ew : toWalk q G2 with
    | ok wk G3 =>
      rw [ew] at h2
      obtain ⟨e2, ad, xs, ex, hsx⟩ := walk_ok hr2 q1' ew
      subst e2
      cases ew2 : toWalk q' G3 with
      | ok wk2 G4 =>
        simp only [Res.bind, ew2] at h2
        obtain ⟨e3, ad2, ys, ex2, hsy⟩ := walk_ok hr2 q2 ew2
        subst e3
        subst ex ex2
        cases r1
        cases r2
        have fresh5 : ∀ c, c ∈ [s2.heap.objs.size + 4, s2.heap.objs.size + 2, s2.heap.objs.size + 3, s2.heap.objs.size, s2.heap.objs.size + 1] → FpOk X pins H2 c := fun c hcm => by
          have e' : c = s2.heap.objs.size + 4 ∨ c = s2.heap.objs.size + 2 ∨ c = s2.heap.objs.size + 3 ∨ c = s2.heap.objs.size ∨ c = s2.heap.objs.size + 1 := by simpa using hcm
          have hle : s2.heap.objs.size ≤ c := by
            rcases e' with z | z | z | z | z
            · rw [z]; exact Nat.le_add_right _ _
            · rw [z]; exact Nat.le_add_right _ _
            · rw [z]; exact Nat.le_add_right _ _
            · rw [z]; exact Nat.le_refl _
            · rw [z]; exact Nat.le_add_right _ _
          exact I2.fpOk hle (I2.hok.fresh hle)
        rcases hsx with ⟨k1, hqx, hl⟩ | ⟨k1, hqx, hl⟩
        · rcases hsy with ⟨k2, hqy, hl2⟩ | ⟨k2, hqy, hl2⟩
          · obtain ⟨its, rv, p1, _⟩ := I2.tuple hqx
            obtain ⟨its2, rv2, p2, _⟩ := I2.tuple hqy
            obtain ⟨o1, ho1, _⟩ := id p1
            obtain ⟨o2, ho2, _⟩ := id p2
            refine RZ.call_zipT (show s2.heap.IsTuple ad its.toArray from p1) (show s2.heap.IsTuple ad2 its2.toArray from p2) fun h' hz hTI hTO h1 h2' hsz hk => wpAny_pyIter_zip hz ?_
            have I3 : Inv X pins σ H2 { s2 with heap := h' } := I2.kept (t' := s2.toks) hk
            exact ⟨s2.heap.objs.size + 4, [s2.heap.objs.size + 4, s2.heap.objs.size + 2, s2.heap.objs.size + 3, s2.heap.objs.size, s2.heap.objs.size + 1], _, _, H2, rfl, I3, RZ.turn_zipT (PySem.W.ktu_apart s2.heap.objs.size ad ad2 (Heap.lt_size ho1) (Heap.lt_size ho2)), ⟨hz, hTI, ⟨_, _, hTO⟩, h1, h2'⟩, fresh5, h2 ι2 H2 _ f2 hr2 (LW.z hl hl2)⟩
          · rw [k1, k2] at hk; cases hk
        · rcases hsy with ⟨k2, hqy, hl2⟩ | ⟨k2, hqy, hl2⟩
          · rw [k1, k2] at hk; cases hk
          · obtain ⟨its, rv, p1, _⟩ := I2.list hqx
            obtain ⟨its2, rv2, p2, _⟩ := I2.list hqy
            refine call_zip_2 p1.isList p2.isList fun h' hz hTI hTO h1 h2' hsz hk => wpAny_pyIter_zip hz ?_
            have I3 : Inv X pins σ H2 { s2 with heap := h' } := I2.kept (t' := s2.toks) hk
            exact ⟨s2.heap.objs.size + 4, [s2.heap.objs.size + 4, s2.heap.objs.size + 2, s2.heap.objs.size + 3, s2.heap.objs.size, s2.heap.objs.size + 1], _, _, H2, rfl, I3, turn_zip (PySem.W.ktu_apart s2.heap.objs.size ad ad2 p1.lt p2.lt), ⟨hz, hTI, ⟨_, _, hTO⟩, h1, h2'⟩, fresh5, h2 ι2 H2 _ f2 hr2 (LW.z hl hl2)⟩
      | ex c d G4 => exact (toWalk_ex ew2).elim
      | bad => simp only [Res.bind, ew2] at h2; exact h2.elim
    | ex c d G3 => exact (toWalk_ex ew).elim
    | bad => rw [ew] at h2; exact h2.elim
  · exact h2.elim
end
end LK

set_option Elab.async false
set_option linter.all false
set_option autoImplicit false
set_option maxRecDepth 100000
set_option maxHeartbeats 4000000
/-! LkComp: targets, comprehensions. -/
namespace LK
open PySem PySem.Spec PyProof.Rows L2

theorem okB {α β : Type} {a : α} {G : Hpp} {f : α → Hpp → Res β} : (Res.ok a G).bind f = f a G := rfl
theorem bdB {α β : Type} {f : α → Hpp → Res β} : (Res.bad : Res α).bind f = .bad := rfl
theorem exB {α β : Type} {c : Str} {d : D} {G : Hpp} {f : α → Hpp → Res β} : (Res.ex c d G : Res α).bind f = .ex c d G := rfl
def Tg.sl : Tg → List Nat
  | .one i => [i]
  | .many js => js
def gSeq : List Nat → TGs
  | [] => gNil
  | j :: js => gCons (gName j) (gSeq js)
def gOf (K : PySem.W.Frag) : Tg → TG
  | .one i => gName i
  | .many js => gTup K js.length (gSeq js)
/-- the slots, some of which hold nothing that is known -/
def ERx (K : PySem.W.Frag) (ι : List Addr) (H : Hp) (σ : L2.St) (ρ : Env) (bad : Nat → Prop) : Prop := σ.length = ρ.length ∧ ∀ (i : Nat) (d : D), ¬ bad i → ρ[i]? = some (some d) → ∃ v, σ[i]? = some (some v) ∧ RV K ι H v d
def setsV : L2.St → List Nat → List V → L2.St
  | σ, j :: js, v :: vs => setsV (σ.set j (some v)) js vs
  | σ, _, _ => σ
section
variable {P : Program} {w : World} {K : PySem.W.Frag} {ι ι' : List Addr} {G G' : Hpp} {H H' : Hp} {σ : L2.St} {ρ ρ1 : Env} {bad : Nat → Prop}
theorem ERx.er (h : ERx K ι H σ ρ bad) (hb : ∀ i, ¬ bad i) : ER K ι H σ ρ := ⟨h.1, fun i d e => h.2 i d (hb i) e⟩
theorem ER.x (h : ER K ι H σ ρ) : ERx K ι H σ ρ bad := ⟨h.1, fun i d _ e => h.2 i d e⟩
theorem ERx.set (h : ERx K ι H σ ρ bad) (j : Nat) {v : V} {d : D} (r : RV K ι H v d) : ERx K ι H (σ.set j (some v)) (ρ.set j (some d)) fun i => bad i ∧ i ≠ j := by
  refine ⟨by rw [List.length_set, List.length_set]; exact h.1, fun i e nb he => ?_⟩
  by_cases hi : i = j
  · subst hi
    have hl : i < ρ.length := by
      have := (List.getElem?_eq_some_iff.mp he).1
      rwa [List.length_set] at this
    have hl' : i < σ.length := by rw [h.1]; exact hl
    rw [List.getElem?_set_self hl] at he
    cases he
    exact ⟨v, List.getElem?_set_self hl', r⟩
  · rw [List.getElem?_set_ne (Ne.symm hi)] at he
    rw [List.getElem?_set_ne (Ne.symm hi)]
    exact h.2 i e (fun hb => nb ⟨hb, hi⟩) he
theorem ERx.imp {bad' : Nat → Prop} (h : ERx K ι H σ ρ bad) (hb : ∀ i, bad i → bad' i) : ERx K ι H σ ρ bad' := ⟨h.1, fun i d n e => h.2 i d (fun z => n (hb i z)) e⟩
theorem sets_ok : ∀ {js : List Nat} {ds : List D} {xs : List V} {σ : L2.St} {ρ ρ1 : Env} {bad : Nat → Prop} {Q : L2.St → Hp → Prop}, setSlots ρ js ds = some ρ1 → RVs K ι H xs ds → ERx K ι H σ ρ bad → (ERx K ι H (setsV σ js xs) ρ1 (fun i => bad i ∧ i ∉ js) → Q (setsV σ js xs) H) → gSeq js xs σ H Q
  | [], [], _, σ, ρ, ρ1, bad, Q, e, r, er, q => by
    cases r
    simp only [setSlots, Option.some.injEq] at e
    subst e
    exact ⟨rfl, q (er.imp fun i h => ⟨h, by simp⟩)⟩
  | j :: js, d :: ds, _, σ, ρ, ρ1, bad, Q, e, r, er, q => by
    cases r with
    | cons r rs =>
      simp only [setSlots] at e
      refine ⟨_, _, rfl, sets_ok (js := js) e rs (er.set j r) fun er' => q (er'.imp fun i h => ⟨h.1.1, ?_⟩)⟩
      simp only [List.mem_cons, not_or]
      exact ⟨h.1.2, h.2⟩
  | [], _ :: _, _, _, _, _, _, _, e, _, _, _ => by simp [setSlots] at e
  | _ :: _, [], _, _, _, _, _, _, e, _, _, _ => by simp [setSlots] at e
theorem slots_len : ∀ {js : List Nat} {ds : List D} {ρ ρ1 : Env}, setSlots ρ js ds = some ρ1 → ds.length = js.length
  | [], [], _, _, _ => rfl
  | j :: js, d :: ds, ρ, ρ1, e => by
    simp only [setSlots] at e
    simp [slots_len e]
  | [], _ :: _, _, _, e => by simp [setSlots] at e
  | _ :: _, [], _, _, e => by simp [setSlots] at e
def sigOf (K : PySem.W.Frag) (tg : Tg) (σ σ' : L2.St) : Prop := ∃ xs, σ' = setsV σ tg.sl xs
theorem bind_ok {tg : Tg} {v : V} {d : D} {Q : L2.St → Hp → Prop} (e : bindTg tg d ρ = some ρ1) (r : RV K ι H v d) (er : ERx K ι H σ ρ bad) (q : ∀ σ', sigOf K tg σ σ' → ERx K ι H σ' ρ1 (fun i => bad i ∧ i ∉ tg.sl) → Q σ' H) : gOf K tg v σ H Q := by
  cases tg with
  | one i =>
    simp only [bindTg, Option.some.injEq] at e
    subst e
    exact q _ ⟨[v], rfl⟩ ((er.set i r).imp fun j h => ⟨h.1, by simpa [Tg.sl] using h.2⟩)
  | many js =>
    cases d with
    | tup ds =>
      simp only [bindTg] at e
      cases r with
      | tup h1 h2 => exact ⟨_, _, rfl, h1, by rw [h2.length]; exact slots_len e, sets_ok e h2 er fun er' => q _ ⟨_, rfl⟩ er'⟩
    | _ => simp [bindTg] at e
theorem wipe_get (vs : List Nat) (i : Nat) : ∀ (σ : L2.St), (wipe σ vs)[i]? = if i ∈ vs ∧ i < σ.length then some none else σ[i]? := by
  induction vs with
  | nil => intro σ; simp [wipe]
  | cons v vs ih =>
    intro σ
    unfold wipe
    by_cases hi : v = i
    · subst hi
      by_cases hl : v < σ.length
      · rw [List.getElem?_set_self (by rw [wipe_length]; exact hl), if_pos ⟨by simp, hl⟩]
      · rw [List.getElem?_eq_none (by rw [List.length_set, wipe_length]; omega), if_neg (fun h => hl h.2), List.getElem?_eq_none (by omega)]
    · rw [List.getElem?_set_ne hi, ih σ]
      by_cases hm : i ∈ vs
      · simp [hm]
      · simp [hm, Ne.symm hi]
theorem wipe_set {vs : List Nat} {j : Nat} {x : Option V} (hj : j ∈ vs) (σ : L2.St) : wipe (σ.set j x) vs = wipe σ vs := by
  refine List.ext_getElem? fun i => ?_
  rw [wipe_get, wipe_get, List.length_set]
  by_cases hi : i ∈ vs ∧ i < σ.length
  · rw [if_pos hi, if_pos hi]
  · rw [if_neg hi, if_neg hi]
    by_cases hij : j = i
    · subst hij
      have hl : ¬ j < σ.length := fun h => hi ⟨hj, h⟩
      rw [List.getElem?_eq_none (by rw [List.length_set]; omega), List.getElem?_eq_none (by omega)]
    · rw [List.getElem?_set_ne hij]
theorem wipe_wipe (vs : List Nat) (σ : L2.St) : wipe (wipe σ vs) vs = wipe σ vs := by
  refine List.ext_getElem? fun i => ?_
  rw [wipe_get, wipe_get, wipe_length]
  by_cases hi : i ∈ vs ∧ i < σ.length
  · rw [if_pos hi, if_pos hi]
  · rw [if_neg hi]
theorem wipe_sets {vs : List Nat} : ∀ {js : List Nat} {xs : List V} {σ : L2.St}, (∀ j ∈ js, j ∈ vs) → wipe (setsV σ js xs) vs = wipe σ vs
  | [], _, _, _ => by simp [setsV]
  | j :: js, [], _, _ => by simp [setsV]
  | j :: js, x :: xs, σ, h => by
    rw [setsV, wipe_sets (fun k hk => h k (List.mem_cons_of_mem _ hk)), wipe_set (h j (List.mem_cons_self ..))]
theorem wipe_er {vs : List Nat} (er : ER K ι H σ ρ) : ERx K ι H (wipe σ vs) ρ (· ∈ vs) := by
  refine ⟨by rw [wipe_length]; exact er.1, fun i d nb e => ?_⟩
  obtain ⟨v, e1, r⟩ := er.2 i d e
  refine ⟨v, ?_, r⟩
  rw [wipe_get, if_neg (fun h => nb h.1)]
  exact e1
/-! ### an object that is no cell is written -/
mutual
theorem RV.keep (ht : ∀ a xs, SqT K H a xs → SqT K H' a xs) (hf : ∀ a xs, Frl K H a xs → Frl K H' a xs) : ∀ {v : V} {d : D}, RV K ι H v d → RV K ι H' v d
  | _, _, .non => .non
  | _, _, .bl b => .bl b
  | _, _, .int b => .int b
  | _, _, .str b => .str b
  | _, _, .tup h hs => .tup (ht _ _ h) (RVs.keep ht hf hs)
  | _, _, .ref e => .ref e
  | _, _, .frl h hs => .frl (hf _ _ h) (RVs.keep ht hf hs)
theorem RVs.keep (ht : ∀ a xs, SqT K H a xs → SqT K H' a xs) (hf : ∀ a xs, Frl K H a xs → Frl K H' a xs) : ∀ {vs : List V} {ds : List D}, RVs K ι H vs ds → RVs K ι H' vs ds
  | _, _, .nil => .nil
  | _, _, .cons h hs => .cons (RV.keep ht hf h) (RVs.keep ht hf hs)
end
/-- a thing that is no tuple and not known -/
def Plain (o : HO) : Prop := (∀ xs, o ≠ .tup xs) ∧ ∀ ob u, o ≠ .frz ob u
theorem sqT_upd {a b : Addr} {o u : HO} {xs : List V} (hb : H b = some o) (po : Plain o) (h : SqT K H a xs) : SqT K (upd H b u) a xs := by
  rcases h with (h | ⟨ob, h⟩) | h
  · exact .inl (.inl (by rw [upd_ne (fun e => by rw [e, hb] at h; exact po.1 _ (Option.some.inj h))]; exact h))
  · exact .inl (.inr ⟨ob, by rw [upd_ne (fun e => by rw [e, hb] at h; exact po.2 _ _ (Option.some.inj h))]; exact h⟩)
  · exact .inr h
theorem frl_upd {a b : Addr} {o u : HO} {xs : List V} (hb : H b = some o) (po : Plain o) (h : Frl K H a xs) : Frl K (upd H b u) a xs := by
  rcases h with ⟨ob, h⟩ | h
  · exact .inl ⟨ob, by rw [upd_ne (fun e => by rw [e, hb] at h; exact po.2 _ _ (Option.some.inj h))]; exact h⟩
  · exact .inr h
theorem RV.upd {b : Addr} {o u : HO} (hb : H b = some o) (po : Plain o) {v : V} {d : D} (h : RV K ι H v d) : RV K ι (upd H b u) v d := h.keep (fun _ _ => sqT_upd hb po) fun _ _ => frl_upd hb po
theorem RVs.upd {b : Addr} {o u : HO} (hb : H b = some o) (po : Plain o) {v : List V} {d : List D} (h : RVs K ι H v d) : RVs K ι (L2.upd H b u) v d := h.keep (fun _ _ => sqT_upd hb po) fun _ _ => frl_upd hb po
theorem HR.updD {b : Addr} {o u : HO} (r : HR P w K ι G H) (hb : H b = some o) (po : Plain o) (nb : b ∉ ι) : HR P w K ι G (L2.upd H b u) := by
  refine ⟨r.len, r.nd, fun n c a e1 e2 => ?_⟩
  have hab : a ≠ b := fun e => nb (e ▸ List.mem_iff_getElem?.mpr ⟨n, e2⟩)
  have h := r.cell n c a e1 e2
  cases c with
  | lst ds => obtain ⟨xs, h1, h2⟩ := h; exact ⟨xs, by rw [upd_ne hab]; exact h1, h2.upd hb po⟩
  | dct t kvs =>
    cases t with
    | false => obtain ⟨ks, h1, h2⟩ := h; exact ⟨ks, by rw [upd_ne hab]; exact h1, L2.Paired.mapP h2 fun _ _ q => ⟨q.1.upd hb po, q.2.upd hb po⟩⟩
    | true =>
      obtain ⟨ks, h1, h3, h2⟩ := h
      exact ⟨ks, by rw [upd_ne hab]; exact h1, h3, L2.Paired.mapP h2 fun _ _ q => ⟨q.1, q.2.1, q.2.2.1, q.2.2.2.1.upd hb po, let ⟨y, y1, y2⟩ := q.2.2.2.2; ⟨y, y1, y2.upd hb po⟩⟩⟩
  | set ds => exact h.elim
theorem Fr2.upF {b : Addr} {u : HO} (f : Fr2 ι H ι' H') (hb : H b = none) : Fr2 ι H ι' (upd H' b u) :=
  ⟨f.pre, f.fresh, fun a o e hx => by rw [upd_ne (ne_of_none e hb)]; exact f.ext a o e hx⟩
theorem plain_lst {xs : List V} : Plain (.lst xs) := ⟨fun _ h => (nomatch h), fun _ _ h => (nomatch h)⟩
theorem plain_dK {xs : List (Key × V)} : Plain (.dK xs) := ⟨fun _ h => (nomatch h), fun _ _ h => (nomatch h)⟩
end
def WX : WT := fun _ _ _ => False
section
variable {X : Cx} {XC : XCT} {W : WT} {α β γ δ : Type} {Rel : Hp → List Addr → Hp → β → α → Prop} {Rel2 : Hp → List Addr → Hp → δ → γ → Prop}
  {σ : L2.St} {ι ι0 : List Addr} {ρ : Env} {G : Hpp} {H H0 : Hp}
theorem stepN {f : Env → Hpp → Res α} {QQ : γ → List Addr → Hpp → Hp → δ → Prop} {k : α → Hpp → Res γ} (hr : HR X.prog X.w X.K ι G H) (er : ER X.K ι H σ ρ) (h : Post X.prog X.w X.K Rel2 XC W ι0 H0 QQ ((noEx (f ρ G)).bind k)) :
    tX X XC WX Rel f σ H (fun v H1 => ∃ a ι1 G1, Fr2 ι H ι1 H1 ∧ HR X.prog X.w X.K ι1 G1 H1 ∧ ER X.K ι1 H1 σ ρ ∧ Rel H ι1 H1 v a ∧ Post X.prog X.w X.K Rel2 XC W ι0 H0 QQ (k a G1)) := by
  refine ⟨ι, ρ, G, hr, er, ?_⟩
  cases e : f ρ G with
  | ok a G1 => rw [e] at h; exact fun ι1 H1 v f1 r1 q => ⟨a, ι1, G1, f1, r1, er.go hr f1, q, h⟩
  | ex _ _ _ => rw [e] at h; exact h.elim
  | bad => rw [e] at h; exact h.elim
theorem stepND {f : Env → Hpp → Res R} {QQ : γ → List Addr → Hpp → Hp → δ → Prop} {k : D → Hpp → Res γ} (hr : HR X.prog X.w X.K ι G H) (er : ER X.K ι H σ ρ) (h : Post X.prog X.w X.K Rel2 XC W ι0 H0 QQ ((noEx ((f ρ G).bind toD)).bind k)) :
    tR X XC WX f σ H (fun v H1 => ∃ d ι1 G1, Fr2 ι H ι1 H1 ∧ HR X.prog X.w X.K ι1 G1 H1 ∧ ER X.K ι1 H1 σ ρ ∧ RV X.K ι1 H1 v d ∧ Post X.prog X.w X.K Rel2 XC W ι0 H0 QQ (k d G1)) := by
  refine ⟨ι, ρ, G, hr, er, ?_⟩
  cases e : f ρ G with
  | ok r G1 =>
    rw [e] at h
    intro ι1 H1 v f1 r1 q1
    obtain ⟨d, G2, ι2, e3, hr2, q2, p2, n2, up, _, _⟩ := bindD r1 q1
    simp only [Res.bind, e3] at h
    exact ⟨d, ι2, G2, f1.bound p2 n2, hr2, ER.up up (er.go hr f1), q2, h⟩
  | ex _ _ _ => rw [e] at h; exact h.elim
  | bad => rw [e] at h; exact h.elim
/-- the wish of a list comprehension -/
theorem lc_wish {tg : Tg} {fI : Env → Hpp → Res Walk} {fT : Env → Hpp → Res Bool} {fE : Env → Hpp → Res R} {vs : List Nat} {Q : VK} (h1 : ∀ j ∈ vs, j ∈ tg.sl) (h2 : ∀ j ∈ tg.sl, j ∈ vs)
    (h : tR X XC W (fun ρ G => (fI ρ G).bind fun w G1 => (compF (compV tg fT fE ρ) w (w.size G1 + 1) 0 [] G1).bind fun ds G2 => .ok (.newL ds) G2) σ H Q) :
    tLc (tI X XC W fI) (gOf X.K tg) (tX X XC WX RelB fT) (tR X XC WX fE) vs σ H Q := by
  obtain ⟨ι, ρ, G, hr, er, h⟩ := h
  obtain ⟨ι', ρ', G', hr', er', h'⟩ := step (Rel := RelW X) hr er h
  refine ⟨ι', ρ', G', hr', er', h'.imp fun _ _ _ H1 J ⟨wk, ι1, G1, f1, hr1, er1, hwr, hp⟩ Dd hD => ?_⟩
  have hHD : H Dd = none := Fr2.back hr1 f1 hD
  refine ⟨fun i m H' => ∃ ι' G' acc xs, Fr2 ι1 H1 ι' H' ∧ HR X.prog X.w X.K ι' G' H' ∧ H' Dd = some (.lst xs) ∧ RVs X.K ι' H' xs acc ∧ Dd ∉ ι' ∧
    Post X.prog X.w X.K (RR X.prog X.w X.K) XC W ι H (fun _ _ _ H' v => Q v H') ((compF (compV tg fT fE ρ) wk m i acc G').bind fun ds G2 => .ok (.newL ds) G2),
    ⟨_, ι1, G1, [], [], Fr2.laid hD, hr1.laid hD, upd_same, .nil, hr1.notin hD, hp⟩, ?_⟩
  rintro i m H' ⟨ι', G', acc, xs, f1', hr', hD', rv', nD, hp⟩
  cases m with
  | zero => exact hp.elim
  | succ n =>
    have hJ := hwr ι' G' H' f1' hr' i
    simp only [compF] at hp
    cases ei : wk.item i G' with
    | stop =>
      rw [ei] at hp hJ
      exact .inl ⟨hJ, hp ι' H' (.ref Dd) (f1.trans hr1 f1') hr' ⟨Dd, xs, rfl, hD', rv', hHD, nD⟩⟩
    | bad => rw [ei] at hp; exact hp.elim
    | yld d =>
      rw [ei] at hp hJ
      obtain ⟨hgo, hy⟩ := hJ
      refine .inr ⟨hgo, _, fun H2 z => ⟨n, Nat.lt_succ_self _, z⟩, fun x H2 y => ?_⟩
      obtain ⟨f2, hr2, rx⟩ := hy x H2 y
      have f2' : Fr2 ι1 H1 ι' H2 := f1'.trans hr' f2
      cases eb : bindTg tg d ρ with
      | none => simp only [compV, eb, bdB] at hp; exact hp.elim
      | some ρ1 =>
        simp only [compV, eb, Res.bind_assoc] at hp
        refine bind_ok eb rx (wipe_er (vs := vs) (er1.go hr1 f2')) fun σ' hσ er' => ?_
        have er2 : ER X.K ι' H2 σ' ρ1 := er'.er fun j hj => hj.2 (h1 j hj.1)
        obtain ⟨zs, rfl⟩ := hσ
        refine ⟨by rw [wipe_sets h2, wipe_wipe], ?_⟩
        obtain ⟨ιa, ρa, Ga, hra, era, ha⟩ := stepN (Rel := RelB) hr2 er2 hp
        refine ⟨ιa, ρa, Ga, hra, era, ha.imp fun _ _ _ H3 b ⟨b', ι3, G3, f3, hr3, er3, eqb, h3⟩ => ?_⟩
        have eqb : b = b' := eqb
        subst eqb
        have f3' : Fr2 ι1 H1 ι3 H3 := f2'.trans hr2 f3
        have hD3 : H3 Dd = some (.lst xs) := f3.ext _ _ (f2.ext _ _ hD' nD) nD
        have nD3 : Dd ∉ ι3 := f3.notin (f2.ext _ _ hD' nD) nD
        have rv3 : RVs X.K ι3 H3 xs acc := (rv'.go hr' f2).go hr2 f3
        cases b with
        | false =>
          simp only [Bool.false_eq_true, if_false, okB] at h3 ⊢
          exact ⟨ι3, G3, acc, xs, f3', hr3, hD3, rv3, nD3, h3⟩
        | true =>
          simp only [if_true, Res.bind_assoc] at h3 ⊢
          obtain ⟨ιb, ρb, Gb, hrb, erb, hb⟩ := stepND hr3 er3 h3
          refine ⟨ιb, ρb, Gb, hrb, erb, hb.imp fun _ _ _ H4 yv ⟨dd, ι4, G4, f4, hr4, er4, ry, h4⟩ => ?_⟩
          simp only [okB] at h4
          split at h4
          · rename_i hlim
            have hD4 : H4 Dd = some (.lst xs) := f4.ext _ _ hD3 nD3
            have nD4 : Dd ∉ ι4 := f4.notin hD3 nD3
            have rv4 : RVs X.K ι4 H4 xs acc := rv3.go hr3 f4
            refine ⟨xs, hD4, ?_, ι4, G4, acc ++ [dd], xs ++ [yv], (f3'.trans hr3 f4).upF hD, hr4.updD hD4 plain_lst nD4, upd_same, (rv4.upd hD4 plain_lst).append (.cons (ry.upd hD4 plain_lst) .nil), nD4, h4⟩
            rw [rv4.length]
            exact Nat.lt_of_lt_of_le hlim lim_line
          · exact h4.elim
/-- .. of a dict comprehension -/
theorem dc_wish {tg : Tg} {fI : Env → Hpp → Res Walk} {fT : Env → Hpp → Res Bool} {fK fE : Env → Hpp → Res R} {vs : List Nat} {Q : VK} (h1 : ∀ j ∈ vs, j ∈ tg.sl) (h2 : ∀ j ∈ tg.sl, j ∈ vs)
    (h : tR X XC W (fun ρ G => (fI ρ G).bind fun w G1 => (dcompF (dcompV tg fT fK fE ρ) w (w.size G1 + 1) 0 [] G1).bind fun ds G2 => .ok (.newD false ds) G2) σ H Q) :
    tDc (tI X XC W fI) (gOf X.K tg) (tX X XC WX RelB fT) (tR X XC WX fK) (tR X XC WX fE) vs σ H Q := by
  obtain ⟨ι, ρ, G, hr, er, h⟩ := h
  obtain ⟨ι', ρ', G', hr', er', h'⟩ := step (Rel := RelW X) hr er h
  refine ⟨ι', ρ', G', hr', er', h'.imp fun _ _ _ H1 J ⟨wk, ι1, G1, f1, hr1, er1, hwr, hp⟩ Dd hD => ?_⟩
  have hHD : H Dd = none := Fr2.back hr1 f1 hD
  refine ⟨fun i m H' => ∃ ι' G' acc ks, Fr2 ι1 H1 ι' H' ∧ HR X.prog X.w X.K ι' G' H' ∧ H' Dd = some (.dK ks) ∧ Paired (fun (q : Key × V) (p : D × D) => RV X.K ι' H' (kV q.1) p.1 ∧ RV X.K ι' H' q.2 p.2) ks acc ∧ Dd ∉ ι' ∧
    Post X.prog X.w X.K (RR X.prog X.w X.K) XC W ι H (fun _ _ _ H' v => Q v H') ((dcompF (dcompV tg fT fK fE ρ) wk m i acc G').bind fun ds G2 => .ok (.newD false ds) G2),
    ⟨_, ι1, G1, [], [], Fr2.laid hD, hr1.laid hD, upd_same, .nil, hr1.notin hD, hp⟩, ?_⟩
  rintro i m H' ⟨ι', G', acc, ks, f1', hr', hD', rv', nD, hp⟩
  cases m with
  | zero => exact hp.elim
  | succ n =>
    have hJ := hwr ι' G' H' f1' hr' i
    simp only [dcompF] at hp
    cases ei : wk.item i G' with
    | stop =>
      rw [ei] at hp hJ
      exact .inl ⟨hJ, hp ι' H' (.ref Dd) (f1.trans hr1 f1') hr' ⟨Dd, rfl, ⟨ks, hD', rv'⟩, hHD, nD⟩⟩
    | bad => rw [ei] at hp; exact hp.elim
    | yld d =>
      rw [ei] at hp hJ
      obtain ⟨hgo, hy⟩ := hJ
      refine .inr ⟨hgo, _, fun H2 z => ⟨n, Nat.lt_succ_self _, z⟩, fun x H2 y => ?_⟩
      obtain ⟨f2, hr2, rx⟩ := hy x H2 y
      have f2' : Fr2 ι1 H1 ι' H2 := f1'.trans hr' f2
      cases eb : bindTg tg d ρ with
      | none => simp only [dcompV, eb, bdB] at hp; exact hp.elim
      | some ρ1 =>
        simp only [dcompV, eb, Res.bind_assoc] at hp
        refine bind_ok eb rx (wipe_er (vs := vs) (er1.go hr1 f2')) fun σ' hσ er' => ?_
        have er2 : ER X.K ι' H2 σ' ρ1 := er'.er fun j hj => hj.2 (h1 j hj.1)
        obtain ⟨zs, rfl⟩ := hσ
        refine ⟨by rw [wipe_sets h2, wipe_wipe], ?_⟩
        obtain ⟨ιa, ρa, Ga, hra, era, ha⟩ := stepN (Rel := RelB) hr2 er2 hp
        refine ⟨ιa, ρa, Ga, hra, era, ha.imp fun _ _ _ H3 b ⟨b', ι3, G3, f3, hr3, er3, eqb, h3⟩ => ?_⟩
        have eqb : b = b' := eqb
        subst eqb
        have f3' : Fr2 ι1 H1 ι3 H3 := f2'.trans hr2 f3
        have hD3 : H3 Dd = some (.dK ks) := f3.ext _ _ (f2.ext _ _ hD' nD) nD
        have nD3 : Dd ∉ ι3 := f3.notin (f2.ext _ _ hD' nD) nD
        have go : ∀ {ιx ιy : List Addr} {Gx : Hpp} {Hx Hy : Hp}, HR X.prog X.w X.K ιx Gx Hx → Fr2 ιx Hx ιy Hy → Paired (fun (q : Key × V) (p : D × D) => RV X.K ιx Hx (kV q.1) p.1 ∧ RV X.K ιx Hx q.2 p.2) ks acc → Paired (fun (q : Key × V) (p : D × D) => RV X.K ιy Hy (kV q.1) p.1 ∧ RV X.K ιy Hy q.2 p.2) ks acc :=
          fun r f h => L2.Paired.mapP h fun _ _ q => ⟨q.1.go r f, q.2.go r f⟩
        have rv3 := go hr2 f3 (go hr' f2 rv')
        cases b with
        | false =>
          simp only [Bool.false_eq_true, if_false, okB] at h3 ⊢
          exact ⟨ι3, G3, acc, ks, f3', hr3, hD3, rv3, nD3, h3⟩
        | true =>
          simp only [if_true, Res.bind_assoc] at h3 ⊢
          obtain ⟨ιb, ρb, Gb, hrb, erb, hb⟩ := stepND hr3 er3 h3
          refine ⟨ιb, ρb, Gb, hrb, erb, hb.imp fun _ _ _ H4 yv ⟨dk, ι4, G4, f4, hr4, er4, ry, h4⟩ => ?_⟩
          have hD4 : H4 Dd = some (.dK ks) := f4.ext _ _ hD3 nD3
          have nD4 : Dd ∉ ι4 := f4.notin hD3 nD3
          obtain ⟨ιc, ρc, Gc, hrc, erc, hc⟩ := stepND hr4 er4 h4
          refine ⟨ιc, ρc, Gc, hrc, erc, hc.imp fun _ _ _ H5 zv ⟨dv, ι5, G5, f5, hr5, er5, rz, h5⟩ => ?_⟩
          simp only [okB] at h5
          split at h5
          · rename_i hlim
            have hD5 : H5 Dd = some (.dK ks) := f5.ext _ _ hD4 nD4
            have nD5 : Dd ∉ ι5 := f5.notin hD4 nD4
            have rv5 := go hr4 f5 (go hr3 f4 rv3)
            have ry5 := ry.go hr4 f5
            obtain ⟨k, rfl⟩ := key_of hlim.1 ry5
            refine ⟨ks, k, rfl, hD5, ?_, ι5, G5, dput acc dk dv, _, ((f3'.trans hr3 f4).trans hr4 f5).upF hD, hr5.updD hD5 plain_dK nD5, upd_same, L2.Paired.mapP (put_k ry5 rz rv5) fun _ _ q => ⟨q.1.upd hD5 plain_dK, q.2.upd hD5 plain_dK⟩, nD5, h5⟩
            rw [Paired.length rv5]
            exact Nat.lt_of_lt_of_le hlim.2 lim_line
          · exact h5.elim
end
end LK

set_option Elab.async false
set_option linter.all false
set_option autoImplicit false
set_option maxRecDepth 100000
set_option maxHeartbeats 4000000
/-! LkStm: statements. -/
namespace LK
open PySem PySem.Spec PyProof.Rows L2

section
variable (X : Cx) (XC : XCT) (W : WT)
def PostF (ι : List Addr) (H : Hp) (D : Ends) : Fl → Prop
  | .nx ρ G' => ∀ ι' H' σ', Fr2 ι H ι' H' → HR X.prog X.w X.K ι' G' H' → ER X.K ι' H' σ' ρ → D.nx σ' H'
  | .bk ρ G' => ∀ ι' H' σ', Fr2 ι H ι' H' → HR X.prog X.w X.K ι' G' H' → ER X.K ι' H' σ' ρ → D.bk σ' H'
  | .ct ρ G' => ∀ ι' H' σ', Fr2 ι H ι' H' → HR X.prog X.w X.K ι' G' H' → ER X.K ι' H' σ' ρ → D.ct σ' H'
  | .rt d G' => ∀ ι' H' v, Fr2 ι H ι' H' → HR X.prog X.w X.K ι' G' H' → RV X.K ι' H' v d → D.rt v H'
  | .ex c d _ G' => ∀ ι' H' cls dd, Fr2 ι H ι' H' → HR X.prog X.w X.K ι' G' H' → XC c d ι' H' cls dd → W cls dd H'
  | .bad => False
abbrev tS (f : Env → Hpp → Fl) : TS := fun D σ H => ∃ ι ρ G, HR X.prog X.w X.K ι G H ∧ ER X.K ι H σ ρ ∧ PostF X XC W ι H D (f ρ G)
end
section
variable {X : Cx} {XC : XCT} {W : WT} {α β γ δ : Type} {Rel : Hp → List Addr → Hp → β → α → Prop}
  {σ : L2.St} {ι ι1 : List Addr} {ρ : Env} {G G1 : Hpp} {H H1 : Hp} {En : Ends}
theorem PostF.shift {r : Fl} (hr : HR X.prog X.w X.K ι1 G1 H1) (f : Fr2 ι H ι1 H1) (h : PostF X XC W ι H En r) : PostF X XC W ι1 H1 En r := by
  cases r with
  | nx ρ G' => exact fun ι' H' σ' f' hr' er' => h ι' H' σ' (f.trans hr f') hr' er'
  | bk ρ G' => exact fun ι' H' σ' f' hr' er' => h ι' H' σ' (f.trans hr f') hr' er'
  | ct ρ G' => exact fun ι' H' σ' f' hr' er' => h ι' H' σ' (f.trans hr f') hr' er'
  | rt d G' => exact fun ι' H' σ' f' hr' er' => h ι' H' σ' (f.trans hr f') hr' er'
  | ex c d ρ G' => exact fun ι' H' cls dd f' hr' er' => h ι' H' cls dd (f.trans hr f') hr' er'
  | bad => exact h
theorem stepF {f : Env → Hpp → Res α} {k : α → Hpp → Fl} {ρ0 : Env} (hr : HR X.prog X.w X.K ι G H) (er : ER X.K ι H σ ρ) (h : PostF X XC W ι H En (resF (f ρ G) ρ0 k)) :
    tX X XC W Rel f σ H (fun v H1 => ∃ a ι1 G1, Fr2 ι H ι1 H1 ∧ HR X.prog X.w X.K ι1 G1 H1 ∧ ER X.K ι1 H1 σ ρ ∧ Rel H ι1 H1 v a ∧ PostF X XC W ι1 H1 En (k a G1)) := by
  refine ⟨ι, ρ, G, hr, er, ?_⟩
  cases e : f ρ G with
  | ok a G1 => rw [e] at h; exact fun ι1 H1 v f1 r1 q => ⟨a, ι1, G1, f1, r1, er.go hr f1, q, PostF.shift r1 f1 h⟩
  | ex c d G1 => rw [e] at h; exact h
  | bad => rw [e] at h; exact h.elim
theorem stepFD {f : Env → Hpp → Res R} {k : LK.D → Hpp → Fl} {ρ0 : Env} (hr : HR X.prog X.w X.K ι G H) (er : ER X.K ι H σ ρ) (h : PostF X XC W ι H En (resF ((f ρ G).bind toD) ρ0 k)) :
    tR X XC W f σ H (fun v H1 => ∃ a ι1 G1, Fr2 ι H ι1 H1 ∧ HR X.prog X.w X.K ι1 G1 H1 ∧ ER X.K ι1 H1 σ ρ ∧ RV X.K ι1 H1 v a ∧ PostF X XC W ι1 H1 En (k a G1)) := by
  refine ⟨ι, ρ, G, hr, er, ?_⟩
  cases e : f ρ G with
  | ok r G1 =>
    rw [e] at h
    intro ι1 H1 v f1 r1 q1
    obtain ⟨d, G2, ι2, e3, hr2, q2, p2, n2, up, _, _⟩ := bindD r1 q1
    rw [okB, e3] at h
    have f2 := f1.bound p2 n2
    exact ⟨d, ι2, G2, f2, hr2, ER.up up (er.go hr f1), q2, PostF.shift hr2 f2 h⟩
  | ex c d G1 => rw [e] at h; exact h
  | bad => rw [e] at h; exact h.elim
variable {a b c e : Expr} {fa fb fc fe : Env → Hpp → Res R} {fs : Env → Hpp → Res (List LK.D)} {pos : Pos} {st : Stmt} {rest body : List Stmt} {f g : Env → Hpp → Fl}
theorem PS.imp {t t' : TS} (h : PS X st t) (hi : ∀ D σ H, t' D σ H → t D σ H) : PS X st t' := ⟨fun pins s σ H D I q => h.run pins s σ H D I (hi D σ H q)⟩
theorem PSs.imp {t t' : TS} (h : PSs X rest t) (hi : ∀ D σ H, t' D σ H → t D σ H) : PSs X rest t' := ⟨fun pins s σ H D I q => h.run pins s σ H D I (hi D σ H q)⟩
theorem s_nil : PSs X [] (tS X XC W fun ρ G => .nx ρ G) := PSs.imp pss_nil fun D σ H ⟨ι, ρ, G, hr, er, h⟩ => h ι H σ .refl hr er
theorem s_cons (h1 : PS X st (tS X XC W f)) (h2 : PSs X rest (tS X XC W g)) : PSs X (st :: rest) (tS X XC W fun ρ G => match f ρ G with
    | .nx ρ1 G1 => g ρ1 G1
    | o => o) := PSs.imp (pss_cons h1 h2) fun D σ H ⟨ι, ρ, G, hr, er, h⟩ => by
  refine ⟨ι, ρ, G, hr, er, ?_⟩
  dsimp only at h
  cases e : f ρ G with
  | nx ρ1 G1 => rw [e] at h; exact fun ι1 H1 σ1 f1 hr1 er1 => ⟨ι1, ρ1, G1, hr1, er1, PostF.shift hr1 f1 h⟩
  | bk ρ1 G1 => rw [e] at h; exact h
  | ct ρ1 G1 => rw [e] at h; exact h
  | rt d G1 => rw [e] at h; exact h
  | ex c d ρ1 G1 => rw [e] at h; exact h
  | bad => rw [e] at h; exact h
theorem s_pass : PS X (.Pass pos) (tS X XC W fun ρ G => .nx ρ G) := PS.imp ps_pass fun D σ H ⟨ι, ρ, G, hr, er, h⟩ => h ι H σ .refl hr er
theorem s_brk : PS X (.Break pos) (tS X XC W fun ρ G => .bk ρ G) := PS.imp ps_break fun D σ H ⟨ι, ρ, G, hr, er, h⟩ => h ι H σ .refl hr er
theorem s_cnt : PS X (.Continue pos) (tS X XC W fun ρ G => .ct ρ G) := PS.imp ps_continue fun D σ H ⟨ι, ρ, G, hr, er, h⟩ => h ι H σ .refl hr er
theorem s_retN : PS X (.Return none pos) (tS X XC W fun _ G => .rt .non G) := PS.imp ps_retN fun D σ H ⟨ι, ρ, G, hr, er, h⟩ => h ι H .non .refl hr .non
theorem s_ret (he : PE X e (tR X XC W fe)) : PS X (.Return (some e) pos) (tS X XC W fun ρ G => resF ((fe ρ G).bind toD) ρ fun d G1 => .rt d G1) :=
  PS.imp (ps_ret he) fun D σ H ⟨ι, ρ, G, hr, er, h⟩ => by
    obtain ⟨ι', ρ', G', hr', er', h'⟩ := stepFD hr er h
    exact ⟨ι', ρ', G', hr', er', h'.imp fun _ _ _ H1 v ⟨d, ι1, G1, f1, hr1, er1, q1, h1⟩ => h1 ι1 H1 v .refl hr1 q1⟩
theorem s_expr (he : PE X e (tR X XC W fe)) (hs : swapsWith e none pos.line X.env = pure false) : PS X (.Expr e pos) (tS X XC W fun ρ G => resF (fe ρ G) ρ fun _ G1 => .nx ρ G1) :=
  PS.imp (ps_expr he hs) fun D σ H ⟨ι, ρ, G, hr, er, h⟩ => by
    obtain ⟨ι', ρ', G', hr', er', h'⟩ := stepF (Rel := RR X.prog X.w X.K) hr er h
    exact ⟨ι', ρ', G', hr', er', h'.imp fun _ _ _ H1 v ⟨d, ι1, G1, f1, hr1, er1, q1, h1⟩ => h1 ι1 H1 σ .refl hr1 er1⟩
theorem ER.set (h : ER X.K ι H σ ρ) (j : Nat) {v : V} {d : LK.D} (r : RV X.K ι H v d) : ER X.K ι H (σ.set j (some v)) (ρ.set j (some d)) := (ERx.set (bad := fun _ => False) (ER.x h) j r).er fun i hi => hi.1
theorem s_set {i : Nat} {x : Str} {pos' : Pos} (hN : X.N.Nodup) (hi : X.N[i]? = some x) (hx : Loc X.env.scope x) (hf : X.fn x = true ∨ X.env.scope.names.lookup x = some .local) (he : PE X e (tR X XC W fe)) (hs : swapsWith e (some (.Name x pos')) pos.line X.env = pure false) :
    PS X (.Assign [.Name x pos'] e pos) (tS X XC W fun ρ G => resF ((fe ρ G).bind toD) ρ fun d G1 => .nx (ρ.set i (some d)) G1) :=
  PS.imp (ps_set hN hi hx he hs hf) fun D σ H ⟨ι, ρ, G, hr, er, h⟩ => by
    obtain ⟨ι', ρ', G', hr', er', h'⟩ := stepFD hr er h
    exact ⟨ι', ρ', G', hr', er', h'.imp fun _ _ _ H1 v ⟨d, ι1, G1, f1, hr1, er1, q1, h1⟩ => h1 ι1 H1 _ .refl hr1 (er1.set i q1)⟩
theorem s_setLc {i : Nat} {y : Str} {py : Pos} {elt tg iter : Expr} {ifs : List Expr} {scope : Scope} {own : List (Str × Nat)} {spos : Pos} {tgt : Tg} {fI : Env → Hpp → Res Walk} {fT : Env → Hpp → Res Bool} (hc : X.calm = true) (hN : X.N.Nodup) (hy : X.N[i]? = some y) (hyl : X.env.scope.names.lookup y = some .local)
    (hsw : swapsWith (.ListComp elt [⟨tg, iter, ifs, 0⟩] scope pos) (some (.Name y py)) spos.line X.env = pure true) (hi : PI X tg iter (tI X XC W fI)) (ok : BlkOk X.N X.env.scope scope own) (h1 : ∀ j ∈ own.map (·.2), j ∈ tgt.sl) (h2 : ∀ j ∈ tgt.sl, j ∈ own.map (·.2))
    (hg : ∀ (s : Shared) (H : Hp) (C : Addr) (cl : List (Str × Addr)) (fp : List Addr), PG (X.blk s H scope (compEnvC scope cl C X.env) fp) tg (gOf X.K tgt)) (ht : ∀ (s : Shared) (H : Hp) (C : Addr) (cl : List (Str × Addr)) (fp : List Addr), PTs (X.blk s H scope (compEnvC scope cl C X.env) fp) ifs (tX X XC WX RelB fT))
    (he : ∀ (s : Shared) (H : Hp) (C : Addr) (cl : List (Str × Addr)) (fp : List Addr), PE (X.blk s H scope (compEnvC scope cl C X.env) fp) elt (tR X XC WX fe)) (hs : ∀ x, foldedSetIterable iter X.env x = pure x) :
    PS X (.Assign [.Name y py] (.ListComp elt [⟨tg, iter, ifs, 0⟩] scope pos) spos) (tS X XC W fun ρ G => resF (((fI ρ G).bind fun w G1 => (compF (compV tgt fT fe ρ) w (w.size G1 + 1) 0 [] G1).bind fun ds G2 => .ok (.newL ds) G2).bind toD) ρ fun d G1 => .nx (ρ.set i (some d)) G1) :=
  PS.imp (ps_setLc hc hN hy hyl hsw hi ok hg ht he hs) fun D σ H ⟨ι, ρ, G, hr, er, h⟩ => by
    refine lc_wish h1 h2 ?_
    obtain ⟨ι', ρ', G', hr', er', h'⟩ := stepFD (f := fun ρ G => (fI ρ G).bind fun w G1 => (compF (compV tgt fT fe ρ) w (w.size G1 + 1) 0 [] G1).bind fun ds G2 => .ok (.newL ds) G2) hr er h
    exact ⟨ι', ρ', G', hr', er', h'.imp fun _ _ _ H1 v ⟨d, ι1, G1, f1, hr1, er1, q1, h1⟩ => h1 ι1 H1 _ .refl hr1 (er1.set i q1)⟩
theorem s_setT {js : List Nat} {tgE : Expr} (he : PE X e (tR X XC W fe)) (hg : PG X tgE (gOf X.K (.many js))) (hs : swapsWithSole [tgE] e pos.line X.env = pure false) (hw : swappedStores [tgE] e X.env = pure none)
    (h1 : (assignEach [tgE] X.env).map (·.2) = [assign tgE X.env]) : PS X (.Assign [tgE] e pos) (tS X XC W fun ρ G => resF (fe ρ G) ρ fun x G1 => match x with
    | .val (.tup ds) => match setSlots ρ js ds with
      | some ρ1 => .nx ρ1 G1
      | none => .bad
    | _ => .bad) :=
  PS.imp (ps_asg he hg hs hw h1) fun D σ H ⟨ι, ρ, G, hr, er, h⟩ => by
    obtain ⟨ι', ρ', G', hr', er', h'⟩ := stepF (Rel := RR X.prog X.w X.K) hr er h
    refine ⟨ι', ρ', G', hr', er', h'.imp fun _ _ _ H1 v ⟨x, ι1, G1, f1, hr1, er1, q1, h1⟩ => ?_⟩
    try dsimp only at h1
    split at h1
    · split at h1
      · rename_i ds _ ρ1 eb
        exact bind_ok (tg := .many js) (d := .tup ds) (bad := fun _ => False) eb q1 (ER.x er1) fun σ' _ er' => h1 ι1 H1 σ' .refl hr1 (er'.er fun i hi => hi.1)
      · exact h1.elim
    · exact h1.elim
theorem s_par {i j : Nat} {x y : Str} {px py pt : Pos} {kt k2 pt2} (hc : X.calm = true) (hN : X.N.Nodup) (hi : X.N[i]? = some x) (hj : X.N[j]? = some y) (hij : i ≠ j)
    (hx : X.env.scope.names.lookup x = some .local) (hy : X.env.scope.names.lookup y = some .local) (ha : PA X [a, b] (tA X XC W fs))
    (hw : swappedStores [.Tuple [.Name x px, .Name y py] kt pt] (.Tuple [a, b] k2 pt2) X.env = pure (some [x, y]))
    (hs : swapsWithSole [.Tuple [.Name x px, .Name y py] kt pt] (.Tuple [a, b] k2 pt2) pos.line X.env = pure false) :
    PS X (.Assign [.Tuple [.Name x px, .Name y py] kt pt] (.Tuple [a, b] k2 pt2) pos) (tS X XC W fun ρ G => resF ((fs ρ G).bind fun ds G1 => okV (.tup ds) G1) ρ fun x G1 => match x with
    | .val (.tup ds) => match setSlots ρ [i, j] ds with
      | some ρ1 => .nx ρ1 G1
      | none => .bad
    | _ => .bad) :=
  PS.imp (ps_par hc hN hi hj hij hx hy ha hw hs) fun D σ H ⟨ι, ρ, G, hr, er, h⟩ => by
    have h : PostF X XC W ι H D (resF (fs ρ G) ρ fun ds G1 => match setSlots ρ [i, j] ds with
      | some ρ1 => .nx ρ1 G1
      | none => .bad) := by
      try dsimp only at h
      cases e : fs ρ G <;> rw [e] at h <;> exact h
    obtain ⟨ι', ρ', G', hr', er', h'⟩ := stepF (Rel := RelL X.K) hr er h
    refine ⟨ι', ρ', G', hr', er', h'.imp fun _ _ _ H1 vs ⟨ds, ι1, G1, f1, hr1, er1, q1, h1⟩ => ?_⟩
    try dsimp only at h1
    split at h1
    · rename_i ρ1 eb
      have hl := slots_len eb
      match ds, hl with
      | [d, e], _ =>
        cases q1 with
        | cons r1 q1 =>
          cases q1 with
          | cons r2 q1 =>
            cases q1
            simp only [setSlots, Option.some.injEq] at eb
            subst eb
            exact ⟨_, _, rfl, h1 ι1 H1 _ .refl hr1 ((er1.set i r1).set j r2)⟩
    · exact h1.elim
theorem s_par3 {i j l : Nat} {x y z : Str} {px py pz pt : Pos} {kt k2 pt2} (hc : X.calm = true) (hN : X.N.Nodup) (hi : X.N[i]? = some x) (hj : X.N[j]? = some y) (hl : X.N[l]? = some z) (hij : i ≠ j) (hil : i ≠ l) (hjl : j ≠ l)
    (hx : X.env.scope.names.lookup x = some .local) (hy : X.env.scope.names.lookup y = some .local) (hz : X.env.scope.names.lookup z = some .local) (ha : PA X [a, b, c] (tA X XC W fs))
    (hw : swappedStores [.Tuple [.Name x px, .Name y py, .Name z pz] kt pt] (.Tuple [a, b, c] k2 pt2) X.env = pure (some [x, y, z]))
    (hs : swapsWithSole [.Tuple [.Name x px, .Name y py, .Name z pz] kt pt] (.Tuple [a, b, c] k2 pt2) pos.line X.env = pure false) :
    PS X (.Assign [.Tuple [.Name x px, .Name y py, .Name z pz] kt pt] (.Tuple [a, b, c] k2 pt2) pos) (tS X XC W fun ρ G => resF ((fs ρ G).bind fun ds G1 => okV (.tup ds) G1) ρ fun x G1 => match x with
    | .val (.tup ds) => match setSlots ρ [i, j, l] ds with
      | some ρ1 => .nx ρ1 G1
      | none => .bad
    | _ => .bad) :=
  PS.imp (ps_par3 hc hN hi hj hl hij hil hjl hx hy hz ha hw hs) fun D σ H ⟨ι, ρ, G, hr, er, h⟩ => by
    have h : PostF X XC W ι H D (resF (fs ρ G) ρ fun ds G1 => match setSlots ρ [i, j, l] ds with
      | some ρ1 => .nx ρ1 G1
      | none => .bad) := by
      try dsimp only at h
      cases e : fs ρ G <;> rw [e] at h <;> exact h
    obtain ⟨ι', ρ', G', hr', er', h'⟩ := stepF (Rel := RelL X.K) hr er h
    refine ⟨ι', ρ', G', hr', er', h'.imp fun _ _ _ H1 vs ⟨ds, ι1, G1, f1, hr1, er1, q1, h1⟩ => ?_⟩
    try dsimp only at h1
    split at h1
    · rename_i ρ1 eb
      have hl := slots_len eb
      match ds, hl with
      | [d, e, u], _ =>
        cases q1 with
        | cons r1 q1 =>
          cases q1 with
          | cons r2 q1 =>
            cases q1 with
            | cons r3 q1 =>
              cases q1
              simp only [setSlots, Option.some.injEq] at eb
              subst eb
              exact ⟨_, _, _, rfl, h1 ι1 H1 _ .refl hr1 (((er1.set i r1).set j r2).set l r3)⟩
    · exact h1.elim
/-- o[i] = v, by values -/
def tPut (X : Cx) : TSet := fun o i v H Q => ∃ (ι : List Addr) (G : Hpp) (r q : R) (d : LK.D) (G' : Hpp) (H0 H1 : Hp), HR X.prog X.w X.K ι G H ∧ RR X.prog X.w X.K H0 ι H o r ∧ RR X.prog X.w X.K H1 ι H i q ∧ RV X.K ι H v d ∧ setIR r q d G = some G' ∧ ∀ H', Fr2 ι H ι H' → HR X.prog X.w X.K ι G' H' → Q H'
theorem put_ok (hu : X.A.units + 150 < cLine) : PSet X (tPut X) := fun pins s σ H o i v ov iv u Q I r1 r2 r3 ⟨ι, G, r, q, d, G', H0, H1, hr, q1, q2, q3, e, h⟩ =>
  setIR_ok hu I hr r1 r2 r3 q1 q2 q3 e fun H' s' I' f' hr' => ⟨H', I', h H' f' hr'⟩
theorem s_setI {o i : Expr} {fo fi : Env → Hpp → Res R} {spos : Pos} (hu : X.A.units + 150 < cLine) (he : PE X e (tR X XC W fe)) (ho : PE X o (tR X XC W fo)) (hi : PE X i (tR X XC W fi)) (hs : swapsWithSole [.Subscript o i spos] e pos.line X.env = pure false)
    (hw : swappedStores [.Subscript o i spos] e X.env = pure none) (ha : ∀ v, assign (.Subscript o i spos) X.env v = (do
      let ov ← holding [v] (eval o X.env)
      let iv ← holding [v, ov] (eval i X.env)
      standAt spos
      holding [v, ov, iv] (setItem ov iv v)
      release [v, ov, iv] [])) :
    PS X (.Assign [.Subscript o i spos] e pos) (tS X XC W fun ρ G => resF ((fe ρ G).bind toD) ρ fun d G1 => resF (fo ρ G1) ρ fun x G2 => resF (fi ρ G2) ρ fun y G3 => match setIR x y d G3 with
    | some G4 => .nx ρ G4
    | none => .bad) :=
  PS.imp (ps_asg he (pg_sub ho hi (put_ok hu) ha) hs hw) fun D σ H ⟨ι, ρ, G, hr, er, h⟩ => by
    obtain ⟨ι', ρ', G', hr', er', h'⟩ := stepFD hr er h
    refine ⟨ι', ρ', G', hr', er', h'.imp fun _ _ _ H1 v ⟨d, ι1, G1, f1, hr1, er1, q1, h1⟩ => ?_⟩
    obtain ⟨ι', ρ', G', hr', er', h'⟩ := stepF (Rel := RR X.prog X.w X.K) hr1 er1 h1
    refine ⟨ι', ρ', G', hr', er', h'.imp fun _ _ _ H2 vo ⟨x, ι2, G2, f2, hr2, er2, q2, h2⟩ => ?_⟩
    obtain ⟨ι', ρ', G', hr', er', h'⟩ := stepF (Rel := RR X.prog X.w X.K) hr2 er2 h2
    refine ⟨ι', ρ', G', hr', er', h'.imp fun _ _ _ H3 vi ⟨y, ι3, G3, f3, hr3, er3, q3, h3⟩ => ?_⟩
    try dsimp only at h3
    split at h3
    · rename_i G4 e4
      exact ⟨ι3, G3, x, y, d, G4, _, _, hr3, q2.go hr2 f3, q3, (q1.go hr1 f2).go hr2 f3, e4, fun H4 f4 hr4 => h3 ι3 H4 σ f4 hr4 (er3.go hr3 f4)⟩
    · exact h3.elim
/-- a op= b, of numbers -/
def tIpI (X : Cx) (XC : XCT) (W : WT) (op : Bop) : TIp := fun x y H Q => ∃ (ι : List Addr) (G : Hpp) (i j : Int), HR X.prog X.w X.K ι G H ∧ x = .int i ∧ y = .int j ∧ PRes X XC W ι H (fun _ _ _ H' v => Q v H') (binI op i j G)
theorem ipI_ok {op : Bop} (ho : op = .add ∨ op = .sub ∨ op = .mul) : PIp X op.op (tIpI X XC W op) := fun pins s σ H x y v u Q I r1 r2 ⟨ι, G, i, j, hr, e1, e2, h⟩ => by
  subst e1 e2
  exact thn (ibinI_ok I hr ho r1 r2 h) fun _ _ e => ep_of e
theorem s_aug {i : Nat} {x : Str} {op : Bop} {pos' : Pos} (hN : X.N.Nodup) (hi : X.N[i]? = some x) (hx : Loc X.env.scope x) (hf : X.fn x = true ∨ X.env.scope.names.lookup x = some .local) (ho : op = .add ∨ op = .sub ∨ op = .mul) (he : PE X e (tR X XC W fe)) :
    PS X (.AugAssign (.Name x pos') op.op e pos) (tS X XC W fun ρ G => match ρ[i]? with
    | some (some d) => resF (fe ρ G) ρ fun y G1 => match d, y with
      | .int a, .val (.int b) => resF ((binI op a b G1).bind toD) ρ fun z G2 => .nx (ρ.set i (some z)) G2
      | _, _ => .bad
    | _ => .bad) :=
  PS.imp (ps_aug hN hi hx he (ipI_ok ho) hf) fun D σ H ⟨ι, ρ, G, hr, er, h⟩ => by
    dsimp only at h
    split at h
    · rename_i d ed
      obtain ⟨v0, e0, rv0⟩ := er.2 i d ed
      refine ⟨v0, e0, ?_⟩
      obtain ⟨ι', ρ', G', hr', er', h'⟩ := stepF (Rel := RR X.prog X.w X.K) hr er h
      refine ⟨ι', ρ', G', hr', er', h'.imp fun _ _ _ H1 v ⟨y, ι1, G1, f1, hr1, er1, q1, h1⟩ => ?_⟩
      try dsimp only at h1
      split at h1
      · rename_i p q _
        cases rv_int rv0
        cases rv_int q1
        refine ⟨ι1, G1, p, q, hr1, rfl, rfl, ?_⟩
        cases eb : binI op p q G1 with
        | ok r G2 =>
          rw [eb] at h1
          intro ι2 H2 z f2 hr2 q2
          obtain ⟨d3, G3, ι3, e3, hr3, q3, p3, n3, up, _, _⟩ := bindD hr2 q2
          rw [okB, e3] at h1
          exact h1 ι3 H2 _ (f2.bound p3 n3) hr3 ((ER.up up (er1.go hr1 f2)).set i q3)
        | ex c d G2 => rw [eb] at h1; exact h1
        | bad => rw [eb] at h1; exact h1
      · exact h1.elim
    · exact h.elim
theorem s_if {p q : List Stmt} (hc : PT X c (tT X XC W fc)) (ha : PSs X p (tS X XC W f)) (hb : PSs X q (tS X XC W g)) : PS X (.If c p q pos) (tS X XC W fun ρ G => resF (fc ρ G) ρ fun x G1 => match x with
    | .val (.bl true) => f ρ G1
    | .val (.bl false) => g ρ G1
    | _ => .bad) :=
  PS.imp (ps_if hc ha hb) fun D σ H ⟨ι, ρ, G, hr, er, h⟩ => by
    have h : PostF X XC W ι H D (resF ((fc ρ G).bind asB) ρ fun b G1 => if b = true then f ρ G1 else g ρ G1) := by
      dsimp only at h
      cases e : fc ρ G with
      | ok x G1 =>
        rw [e] at h
        rw [okB]
        dsimp only [resF] at h
        split at h
        · exact h
        · exact h
        · exact h.elim
      | ex c d G1 => rw [e] at h; exact h
      | bad => rw [e] at h; exact h
    obtain ⟨ι', ρ', G', hr', er', h'⟩ := stepF (f := fun ρ G => (fc ρ G).bind asB) (Rel := RelB) hr er h
    refine ⟨ι', ρ', G', hr', er', h'.imp fun _ _ _ H1 v ⟨b, ι1, G1, f1, hr1, er1, q1, h1⟩ => ?_⟩
    have q1 : v = b := q1
    subst q1
    cases v with
    | true => exact ⟨ι1, ρ, G1, hr1, er1, h1⟩
    | false => exact ⟨ι1, ρ, G1, hr1, er1, h1⟩
theorem s_whl (hp : PassesOwn (model X.prog X.w) X.A X.env X.xe) (hc : PT X c (tT X XC W fc)) (hb : PSs X body (tS X XC W f)) {n : Nat} : PS X (.While c body [] pos) (tS X XC W fun ρ G => whileF (fun ρ1 G1 => fc ρ1 G1) (fun ρ1 G1 => f ρ1 G1) n ρ G) :=
  PS.imp (ps_while hp hc hb) fun D σ H ⟨ι, ρ, G, hr, er, h⟩ => by
    refine ⟨fun m σ' H' => ∃ ι' ρ' G', HR X.prog X.w X.K ι' G' H' ∧ ER X.K ι' H' σ' ρ' ∧ PostF X XC W ι' H' D (whileF (fun ρ1 G1 => fc ρ1 G1) (fun ρ1 G1 => f ρ1 G1) m ρ' G'), ⟨n, ι, ρ, G, hr, er, h⟩, ?_⟩
    rintro m σ' H' ⟨ι', ρ', G', hr', er', hp⟩
    cases m with
    | zero => exact hp.elim
    | succ m =>
      have hp : PostF X XC W ι' H' D (resF ((fc ρ' G').bind asB) ρ' fun b G1 => if b = true then (match f ρ' G1 with
        | .nx ρ1 G2 => whileF (fun ρ1 G1 => fc ρ1 G1) (fun ρ1 G1 => f ρ1 G1) m ρ1 G2
        | .ct ρ1 G2 => whileF (fun ρ1 G1 => fc ρ1 G1) (fun ρ1 G1 => f ρ1 G1) m ρ1 G2
        | .bk ρ1 G2 => .nx ρ1 G2
        | r => r) else .nx ρ' G1) := by
        simp only [whileF] at hp
        cases e : fc ρ' G' with
        | ok x G1 =>
          rw [e] at hp
          rw [okB]
          try dsimp only at hp
          cases x with
          | val d =>
            cases d with
            | bl b => cases b <;> exact hp
            | _ => exact hp.elim
          | _ => exact hp.elim
        | ex c d G1 => rw [e] at hp; exact hp
        | bad => rw [e] at hp; exact hp
      obtain ⟨ιa, ρa, Ga, hra, era, ha⟩ := stepF (f := fun ρ G => (fc ρ G).bind asB) (Rel := RelB) hr' er' hp
      refine ⟨ιa, ρa, Ga, hra, era, ha.imp fun _ _ _ H1 v ⟨b, ι1, G1, f1, hr1, er1, q1, h1⟩ => ?_⟩
      have q1 : v = b := q1
      subst q1
      cases v with
      | false => exact h1 ι1 H1 σ' .refl hr1 er1
      | true =>
        show if true = true then _ else _
        rw [if_pos rfl] at h1 ⊢
        refine ⟨_, fun σ2 H2 z => ⟨m, Nat.lt_succ_self _, z⟩, ι1, ρ', G1, hr1, er1, ?_⟩
        cases e : f ρ' G1 with
        | nx ρ1 G2 => rw [e] at h1; exact fun ι2 H2 σ2 f2 hr2 er2 => ⟨ι2, ρ1, G2, hr2, er2, PostF.shift hr2 f2 h1⟩
        | ct ρ1 G2 => rw [e] at h1; exact fun ι2 H2 σ2 f2 hr2 er2 => ⟨ι2, ρ1, G2, hr2, er2, PostF.shift hr2 f2 h1⟩
        | bk ρ1 G2 => rw [e] at h1; exact h1
        | rt d G2 => rw [e] at h1; exact h1
        | ex c d ρ1 G2 => rw [e] at h1; exact h1
        | bad => rw [e] at h1; exact h1
theorem s_for {tgE iter : Expr} {tg : Tg} {fI : Env → Hpp → Res Walk} (hp : PassesOwn (model X.prog X.w) X.A X.env X.xe) (hc : X.calm = true) (hi : PI X tgE iter (tI X XC W fI)) (hg : PG X tgE (gOf X.K tg)) (hb : PSs X body (tS X XC W f))
    (hs : ∀ x, foldedSetIterable iter X.env x = pure x) : PS X (.For tgE iter body [] pos) (tS X XC W fun ρ G => resF (fI ρ G) ρ fun w G1 => loopF (fun d ρ1 G2 => match bindTg tg d ρ1 with
    | some ρ2 => f ρ2 G2
    | none => .bad) w (w.size G1 + 1) 0 ρ G1) :=
  PS.imp (ps_for hp hc hi hg hb hs) fun D σ H ⟨ι, ρ, G, hr, er, h⟩ => by
    obtain ⟨ι', ρ', G', hr', er', h'⟩ := stepF (Rel := RelW X) hr er h
    refine ⟨ι', ρ', G', hr', er', h'.imp fun _ _ _ H1 J ⟨wk, ι1, G1, f1, hr1, er1, hwr, hp⟩ => ?_⟩
    have hwr : WR X.prog X.w X.K ι1 H1 J wk := hwr
    refine ⟨fun i m σ' H' => ∃ ι' ρ' G', Fr2 ι1 H1 ι' H' ∧ HR X.prog X.w X.K ι' G' H' ∧ ER X.K ι' H' σ' ρ' ∧ PostF X XC W ι' H' D (loopF (fun d ρ1 G2 => match bindTg tg d ρ1 with
      | some ρ2 => f ρ2 G2
      | none => .bad) wk m i ρ' G'), ⟨_, ι1, ρ, G1, .refl, hr1, er1, hp⟩, ?_⟩
    rintro i m σ' H' ⟨ι', ρ', G', f1', hr', er', hp⟩
    cases m with
    | zero => exact hp.elim
    | succ n =>
      have hJ := hwr ι' G' H' f1' hr' i
      simp only [loopF] at hp
      cases ei : wk.item i G' with
      | stop => rw [ei] at hp hJ; exact .inl ⟨hJ, hp ι' H' σ' .refl hr' er'⟩
      | bad => rw [ei] at hp; exact hp.elim
      | yld d =>
        rw [ei] at hp hJ
        obtain ⟨hgo, hy⟩ := hJ
        refine .inr ⟨hgo, _, fun σ2 H2 z => ⟨n, Nat.lt_succ_self _, z⟩, fun x H2 y => ?_⟩
        obtain ⟨f2, hr2, rx⟩ := hy x H2 y
        have f2' : Fr2 ι1 H1 ι' H2 := f1'.trans hr' f2
        have hp := PostF.shift hr2 f2 hp
        dsimp only at hp
        cases eb : bindTg tg d ρ' with
        | none => simp only [eb] at hp; exact hp.elim
        | some ρ2 =>
          simp only [eb] at hp
          refine bind_ok (bad := fun _ => False) eb rx (ER.x (er'.go hr' f2)) fun σ2 _ er2 => ⟨ι', ρ2, G', hr2, er2.er fun j hj => hj.1, ?_⟩
          have go : ∀ {ρ1 G3 ι3 H3 σ3}, Fr2 ι' H2 ι3 H3 → HR X.prog X.w X.K ι3 G3 H3 → ER X.K ι3 H3 σ3 ρ1 → PostF X XC W ι' H2 D (loopF (fun d ρ1 G2 => match bindTg tg d ρ1 with
            | some ρ2 => f ρ2 G2
            | none => .bad) wk n (i + 1) ρ1 G3) → ∃ ι' ρ' G', Fr2 ι1 H1 ι' H3 ∧ HR X.prog X.w X.K ι' G' H3 ∧ ER X.K ι' H3 σ3 ρ' ∧ PostF X XC W ι' H3 D (loopF (fun d ρ1 G2 => match bindTg tg d ρ1 with
            | some ρ2 => f ρ2 G2
            | none => .bad) wk n (i + 1) ρ' G') := fun {ρ1 G3 ι3 H3 σ3} f3 hr3 er3 h3 => ⟨ι3, ρ1, G3, f2'.trans hr2 f3, hr3, er3, PostF.shift hr3 f3 h3⟩
          cases e : f ρ2 G' with
          | nx ρ1 G3 => rw [e] at hp; exact fun ι3 H3 σ3 f3 hr3 er3 => go f3 hr3 er3 hp
          | ct ρ1 G3 => rw [e] at hp; exact fun ι3 H3 σ3 f3 hr3 er3 => go f3 hr3 er3 hp
          | bk ρ1 G3 => rw [e] at hp; exact hp
          | rt d G3 => rw [e] at hp; exact hp
          | ex c d ρ1 G3 => rw [e] at hp; exact hp
          | bad => rw [e] at hp; exact hp
end
end LK

set_option Elab.async false
set_option linter.all false
set_option autoImplicit false
set_option maxRecDepth 100000
set_option maxHeartbeats 4000000
/-! LkLrng: list(range(..)). -/
namespace LK
open PySem PySem.Spec PyProof.Rows L2
section
variable {X : Cx} {XC : XCT} {W : WT} {a b : Expr} {fa fb : Env → Hpp → Res R} {pos : Pos}
theorem rgV_rel {K : PySem.W.Frag} {ι : List Addr} {H : Hp} {i j : Int} : RVs K ι H (rgV i j) ((List.range (j - i).toNat).map fun (k : Nat) => D.int (i + k)) := by
  unfold rgV
  induction List.range (j - i).toNat with
  | nil => exact .nil
  | cons x l ih => exact .cons (.int _) ih
theorem rg_ok {i j : Int} (h : (-(LIM : Int) ≤ i ∧ i ≤ LIM) ∧ -(LIM : Int) ≤ j ∧ j ≤ LIM) : RgOk i j := by
  have h : (-(1000000 : Int) ≤ i ∧ i ≤ 1000000) ∧ -(1000000 : Int) ≤ j ∧ j ≤ 1000000 := h
  exact ⟨by omega, by omega, by omega, by omega, by omega⟩
theorem x_lrng2 {p q : Pos} {rpos : Pos} (hc : X.calm = true) (hl : Blt X "list" (.type "list")) (hr : Blt X "range" (.type "range")) (ha : PE X a (tR X XC W fa)) (hb : PE X b (tR X XC W fb)) (hs : starEach [a, b] X.env = (false, eval a X.env) :: starEach [b] X.env) (hs2 : starEach [b] X.env = (false, eval b X.env) :: starEach [] X.env) (hpl : (backTo rpos (starEach [b] X.env)).any (·.1) = false) :
    PE X (.Call (.Name "list" p) [.Call (.Name "range" q) [a, b] [] rpos] [] pos) (tR X XC W fun ρ G => (fa ρ G).bind fun x G1 => (fb ρ G1).bind fun y G2 => match x, y with
    | .val (.int i), .val (.int j) => if (-(LIM : Int) ≤ i ∧ i ≤ LIM) ∧ -(LIM : Int) ≤ j ∧ j ≤ LIM then .ok (.newL ((List.range (j - i).toNat).map fun (k : Nat) => .int (i + k))) G2 else .bad
    | _, _ => .bad) :=
  PE.imp (pe_listRg hc hl.gl hl.mg (prg_2 hr.gl hr.mg ha hb hs hs2 hpl)) fun σ H Q ⟨ι, ρ, G, hr, er, h⟩ => by
    obtain ⟨ι', ρ', G', hr', er', h'⟩ := step (Rel := RR X.prog X.w X.K) hr er h
    refine ⟨ι', ρ', G', hr', er', h'.imp fun _ _ _ H1 v ⟨x, ι1, G1, f1, hr1, er1, q1, h1⟩ => ?_⟩
    obtain ⟨ι', ρ', G', hr', er', h'⟩ := step2 (Rel := RR X.prog X.w X.K) f1 hr1 er1 (backR f1 hr1) h1
    refine ⟨ι', ρ', G', hr', er', h'.imp fun _ _ _ H2 u ⟨y, ι2, G2, f2, hr2, er2, q2, h2⟩ => ?_⟩
    try dsimp only at h2
    split at h2
    · rename_i i j _
      split at h2
      · rename_i hk
        have q1' := RR.go (H0 := H) hr1 f2 q1
        cases rv_int q1'
        cases rv_int q2
        refine ⟨_, _, rfl, rfl, rg_ok hk, fun p hp => ?_⟩
        exact h2 ι2 (upd H2 p (.lst (rgV i j))) (.ref p) (f2.trans hr2 (Fr2.laid hp)) (hr2.laid hp) ⟨p, rgV i j, rfl, upd_same, rgV_rel, f2.back hr2 hp, hr2.notin hp⟩
      · exact h2.elim
    · exact h2.elim
theorem x_lrng1 {p q : Pos} {rpos : Pos} (hc : X.calm = true) (hl : Blt X "list" (.type "list")) (hr : Blt X "range" (.type "range")) (hb : PE X b (tR X XC W fb)) (hs2 : starEach [b] X.env = (false, eval b X.env) :: starEach [] X.env) :
    PE X (.Call (.Name "list" p) [.Call (.Name "range" q) [b] [] rpos] [] pos) (tR X XC W fun ρ G => (okV (.int 0) G).bind fun x G1 => (fb ρ G1).bind fun y G2 => match x, y with
    | .val (.int i), .val (.int j) => if (-(LIM : Int) ≤ i ∧ i ≤ LIM) ∧ -(LIM : Int) ≤ j ∧ j ≤ LIM then .ok (.newL ((List.range (j - i).toNat).map fun (k : Nat) => .int (i + k))) G2 else .bad
    | _, _ => .bad) :=
  PE.imp (pe_listRg hc hl.gl hl.mg (prg_1 hr.gl hr.mg hb hs2)) fun σ H Q ⟨ι, ρ, G, hr, er, h⟩ => by
    have h : Post X.prog X.w X.K (RR X.prog X.w X.K) XC W ι H (fun _ _ _ H' v => Q v H') ((fb ρ G).bind fun y G2 => match y with
      | .val (.int j) => if (-(LIM : Int) ≤ 0 ∧ (0 : Int) ≤ LIM) ∧ -(LIM : Int) ≤ j ∧ j ≤ LIM then .ok (.newL ((List.range (j - 0).toNat).map fun (k : Nat) => .int (0 + k))) G2 else .bad
      | _ => .bad) := by
      cases e : fb ρ G with
      | ok y G2 =>
        rw [okB]
        dsimp only at h
        rw [show (okV (.int 0) G) = .ok (.val (.int 0)) G from rfl, okB, e, okB] at h
        cases y with
        | val d => cases d <;> exact h
        | _ => exact h
      | ex _ _ _ =>
        dsimp only at h
        rw [show (okV (.int 0) G) = .ok (.val (.int 0)) G from rfl, okB, e] at h
        exact h
      | bad =>
        dsimp only at h
        rw [show (okV (.int 0) G) = .ok (.val (.int 0)) G from rfl, okB, e] at h
        exact h
    obtain ⟨ι', ρ', G', hr', er', h'⟩ := step (Rel := RR X.prog X.w X.K) hr er h
    refine ⟨ι', ρ', G', hr', er', h'.imp fun _ _ _ H1 v ⟨y, ι1, G1, f1, hr1, er1, q1, h1⟩ => ?_⟩
    try dsimp only at h1
    split at h1
    · rename_i j
      split at h1
      · rename_i hk
        cases rv_int q1
        refine ⟨_, rfl, rg_ok hk, fun p hp => ?_⟩
        exact h1 ι1 (upd H1 p (.lst (rgV 0 j))) (.ref p) (f1.trans hr1 (Fr2.laid hp)) (hr1.laid hp) ⟨p, rgV 0 j, rfl, upd_same, rgV_rel, f1.back hr1 hp, hr1.notin hp⟩
      · exact h1.elim
    · exact h1.elim
end
end LK

set_option Elab.async false
set_option linter.all false
set_option autoImplicit false
set_option maxRecDepth 100000
set_option maxHeartbeats 4000000
/-! LkChk: a checker that the text is what the language says; its soundness. -/
namespace LK
open PySem PySem.Spec PyProof.Rows L2

/-- the shape of a call -/
structure Sh where
  f : Str
  n : Nat
  ks : List Str
  dd : List D
  deriving DecidableEq
structure CC where
  N : List Str
  sc : Scope
  fn : Str → Bool
  shp : List Sh
  gl : List Str
  bl : List Str
def notStar : Expr → Bool
  | .Starred .. => false
  | _ => true
def notSet : Expr → Bool
  | .Set .. => false
  | _ => true
def notSlice : Expr → Bool
  | .Slice .. => false
  | _ => true
def notComp : Expr → Bool
  | .ListComp .. => false
  | .SetComp .. => false
  | .DictComp .. => false
  | _ => true
def notTup : Expr → Bool
  | .Tuple .. => false
  | _ => true
def notCall : Expr → Bool
  | .Call .. => false
  | _ => true
/-- its test is its value's -/
def plainT : Expr → Bool
  | .UnaryOp .. => false
  | .BoolOp .. => false
  | .IfExp .. => false
  | .Compare .. => false
  | _ => true
def isNon : E → Bool
  | .non => true
  | _ => false
def isZero : E → Bool
  | .int i => i == 0
  | _ => false
def Sb.nm : Sb → Str
  | .tuple => "tuple" | .list => "list" | .sorted => "sorted" | .sortedR => "sortedR" | .sum => "sum" | .all => "all" | .any => "any" | .min => "min" | .max => "max" | .set => "set" | .dict => "dict"
def Ty.sn : Ty → Str
  | .int => "int" | .bool => "bool" | .str => "str" | .tuple => "tuple" | .list => "list"
def CC.blk (c : CC) (scope : Scope) : CC := { c with sc := relS scope c.sc, fn := fun x => scope.names.lookup x == some .cell }
def CC.glb (c : CC) (x : Str) : Bool := decide (c.sc.names.lookup x = some .globalImplicit)
def CC.blt (c : CC) (x : Str) : Bool := c.glb x && decide (x ∈ c.bl)
def CC.vis (c : CC) (i : Nat) (x : Str) : Bool := decide (c.N[i]? = some x) && (decide (c.sc.names.lookup x = some .local) || decide (c.sc.names.lookup x = some .cell) || decide (c.sc.names.lookup x = some .free)) && !(x == ("__debug__" : Str)) && !(x == ("__classdict__" : Str))
def CC.loc (c : CC) (i : Nat) (x : Str) : Bool := decide (c.N[i]? = some x) && (decide (c.sc.names.lookup x = some .local) || (decide (c.sc.names.lookup x = some .cell) && c.fn x))
def chkTgs (c : CC) : List Nat → List Expr → Bool
  | [], [] => true
  | j :: js, .Name x _ :: es => c.loc j x && chkTgs c js es
  | _, _ => false
def chkTg (c : CC) : Tg → Expr → Bool
  | .one i, .Name x _ => c.loc i x
  | .many js, .Tuple es _ _ => chkTgs c js es
  | _, _ => false
def CC.own (c : CC) (tg : Tg) : List (Str × Nat) := tg.sl.map fun j => ((c.N[j]?).getD "", j)
mutual
def chkE : E → CC → Expr → Bool
  | .int i, _, x => match x with
    | .Constant (.int j) _ _ => i == j
    | _ => false
  | .bl b, _, x => match x with
    | .Constant (.bool j) _ _ => b == j
    | _ => false
  | .non, _, x => match x with
    | .Constant .none _ _ => true
    | _ => false
  | .str s, _, x => match x with
    | .Constant (.str j) _ _ => decide (s = j)
    | _ => false
  | .var i, c, x => match x with
    | .Name y _ => c.vis i y
    | _ => false
  | .glob z, c, x => match x with
    | .Name y _ => decide (z = y) && c.glb y && decide (y ∈ c.gl) && !(y == ("__debug__" : Str))
    | _ => false
  | .tup es, c, x => match x with
    | .Tuple xs _ _ => decide (xs.length ≤ 1000) && chkEs es c xs
    | _ => false
  | .lst es, c, x => match x with
    | .List xs _ => decide (xs.length ≤ 1000) && chkEs es c xs
    | _ => false
  | .dnew _, _, x => match x with
    | .Dict [] [] _ => true
    | _ => false
  | .bin op a b, c, x => match x with
    | .BinOp l o r _ => decide (o = op.op) && chkE a c l && chkE b c r
    | _ => false
  | .neg a, c, x => match x with
    | .UnaryOp .USub l _ => chkE a c l
    | _ => false
  | .cmp op a b, c, x => match x with
    | .Compare l [o] [r] _ => decide (o = op.op) && !behindInMarks o r && chkE a c l && chkE b c r
    | _ => false
  | .chain o p a b d, c, x => match x with
    | .Compare l [o', p'] [r, q] _ => decide (o' = o.op) && decide (p' = p.op) && !lastMarks [o', p'] [r, q] && chkE a c l && chkE b c r && chkE d c q
    | _ => false
  | .and a b, c, x => match x with
    | .BoolOp .And (l :: r :: rest) pos => chkE a c l && (match rest with
      | [] => chkE b c r
      | _ => chkE b c (.BoolOp .And (r :: rest) pos))
    | _ => false
  | .or a b, c, x => match x with
    | .BoolOp .Or (l :: r :: rest) pos => chkE a c l && (match rest with
      | [] => chkE b c r
      | _ => chkE b c (.BoolOp .Or (r :: rest) pos))
    | _ => false
  | .not a, c, x => match x with
    | .UnaryOp .Not l _ => chkE a c l
    | _ => false
  | .ite t a b, c, x => match x with
    | .IfExp u l r _ => chkE t c u && chkE a c l && chkE b c r
    | _ => false
  | .idx a i, c, x => match x with
    | .Subscript l r _ => notSlice r && chkE a c l && chkE i c r
    | _ => false
  | .slc a lo hi, c, x => match x with
    | .Subscript l (.Slice p q none _) _ => chkE a c l && (match p with
      | none => isNon lo
      | some p => !isNon lo && chkE lo c p) && (match q with
      | none => isNon hi
      | some q => !isNon hi && chkE hi c q)
    | _ => false
  | .call f es ks dd, c, x => match x with
    | .Call (.Name g _) args kws _ => decide (f = g) && c.glb f && !(f == ("__debug__" : Str)) && decide (Sh.mk f args.length (kws.map fun k => k.arg.getD "") dd ∈ c.shp) && (kws.all fun k => k.arg.isSome) && chkEs es c args && chkKs ks c kws
    | _ => false
  | .len a, c, x => match x with
    | .Call (.Name g _) [l] [] _ => decide (g = ("len" : Str)) && c.blt "len" && notStar l && chkE a c l
    | _ => false
  | .abs a, c, x => match x with
    | .Call (.Name g _) [l] [] _ => decide (g = ("abs" : Str)) && c.blt "abs" && notStar l && chkE a c l
    | _ => false
  | .int1 a, c, x => match x with
    | .Call (.Name g _) [l] [] _ => decide (g = ("int" : Str)) && c.blt "int" && notStar l && chkE a c l
    | _ => false
  | .min2 a b, c, x => match x with
    | .Call (.Name g _) [l, r] [] _ => decide (g = ("min" : Str)) && c.blt "min" && notStar l && notStar r && chkE a c l && chkE b c r
    | _ => false
  | .max2 a b, c, x => match x with
    | .Call (.Name g _) [l, r] [] _ => decide (g = ("max" : Str)) && c.blt "max" && notStar l && notStar r && chkE a c l && chkE b c r
    | _ => false
  | .isi a t, c, x => match x with
    | .Call (.Name g _) [l, .Name tn _] [] _ => decide (g = ("isinstance" : Str)) && c.blt "isinstance" && notStar l && decide (tn = t.sn) && c.blt t.sn && chkE a c l
    | _ => false
  | .seq b a, c, x => match x with
    | .Call (.Name g _) [l] [] _ => decide (g = b.nm) && decide (b ≠ .sortedR) && c.blt b.nm && notStar l && chkE a c l
    | _ => false
  | .lrng a b, c, x => match x with
    | .Call (.Name g _) [.Call (.Name h _) [l, r] [] _] [] _ => decide (g = ("list" : Str)) && decide (h = ("range" : Str)) && c.blt "list" && c.blt "range" && notStar l && notStar r && chkE a c l && chkE b c r
    | .Call (.Name g _) [.Call (.Name h _) [r] [] _] [] _ => decide (g = ("list" : Str)) && decide (h = ("range" : Str)) && c.blt "list" && c.blt "range" && notStar r && isZero a && chkE b c r
    | _ => false
  | .comp e tg i ifs, c, x => match x with
    | .ListComp elt [⟨tgE, iter, ifsE, 0⟩] scope _ => chkI i c tgE iter && notSet iter && blkC c.N c.sc scope (c.own tg) && chkTg (c.blk scope) tg tgE && chkIf ifs (c.blk scope) ifsE && chkE e (c.blk scope) elt
    | _ => false
  | .dcomp _ k e tg i ifs, c, x => match x with
    | .DictComp kx elt [⟨tgE, iter, ifsE, 0⟩] scope _ => chkI i c tgE iter && notSet iter && blkC c.N c.sc scope (c.own tg) && chkTg (c.blk scope) tg tgE && chkIf ifs (c.blk scope) ifsE && chkE k (c.blk scope) kx && chkE e (c.blk scope) elt
    | _ => false
  | .meth0 m o, c, x => match x with
    | .Call (.Attribute l at_ apos) [] [] cpos => decide (at_ = m.nm) && notCall l && (apos.endLine == cpos.line) && chkE o c l
    | _ => false
  | .meth1 m o a, c, x => match x with
    | .Call (.Attribute l at_ apos) [r] [] cpos => decide (at_ = m.nm) && notCall l && (apos.endLine == cpos.line) && notStar r && chkE o c l && chkE a c r
    | _ => false
def chkEs : Es → CC → List Expr → Bool
  | .nil, _, xs => match xs with
    | [] => true
    | _ => false
  | .cons e r, c, xs => match xs with
    | x :: xs => notStar x && chkE e c x && chkEs r c xs
    | _ => false
def chkKs : Es → CC → List Keyword → Bool
  | .nil, _, xs => match xs with
    | [] => true
    | _ => false
  | .cons e r, c, xs => match xs with
    | ⟨_, x, _⟩ :: xs => chkE e c x && chkKs r c xs
    | _ => false
/-- a comprehension's tests: none or one -/
def chkIf : Es → CC → List Expr → Bool
  | .nil, _, xs => match xs with
    | [] => true
    | _ => false
  | .cons e r, c, xs => match xs, r with
    | [x], .nil => chkE e c x
    | _, _ => false
def chkI : I → CC → Expr → Expr → Bool
  | .ex e, c, _, x => chkE e c x
  | .rng1 a, c, _, x => match x with
    | .Call (.Name g _) [l] [] _ => decide (g = ("range" : Str)) && c.blt "range" && notStar l && chkE a c l
    | _ => false
  | .rng2 a b, c, _, x => match x with
    | .Call (.Name g _) [l, r] [] _ => decide (g = ("range" : Str)) && c.blt "range" && notStar l && notStar r && chkE a c l && chkE b c r
    | _ => false
  | .enum a, c, tg, x => match tg, x with
    | .Tuple .., .Call (.Name g _) [l] [] _ => decide (g = ("enumerate" : Str)) && c.blt "enumerate" && notStar l && chkE a c l
    | _, _ => false
  | .zip a b, c, tg, x => match tg, x with
    | .Tuple .., .Call (.Name g _) [l, r] [] _ => decide (g = ("zip" : Str)) && c.blt "zip" && notStar l && notStar r && chkE a c l && chkE b c r
    | _, _ => false
  | .items _, _, _, _ => false
end
/-- the names that are stored from the right; none: not told -/
def swp (sc : Scope) (ts vs : List Expr) : Option (Option (List Str)) :=
  if !(ts.length == 2 || ts.length == 3) || vs.length != ts.length then some none
  else if vs.any fun | .Starred .. => true | _ => false then some none
  else
    let line := (ts.head?.map (·.pos.line)).getD 0
    let names := ts.filterMap fun
      | .Name id pos => if sc.names.lookup id == some .local && pos.line == line then some id else none
      | _ => none
    if names.length != ts.length || names.eraseDups.length != names.length then some none
    else if vs.all (foldedForSure 8) then some none
    else if vs.all (constantsAlone 8) then none
    else some (some names)
def CC.lcl (c : CC) (x : Str) : Bool := decide (c.sc.names.lookup x = some .local)
def chkPar (c : CC) (js : List Nat) (ts vs : List Expr) (names : List Str) : Bool :=
  match js, ts, vs with
  | [i, j], [.Name x _, .Name y _], [_, _] => decide (i ≠ j) && decide (names = [x, y]) && c.lcl x && c.lcl y && decide (c.N[i]? = some x) && decide (c.N[j]? = some y)
  | [i, j, l], [.Name x _, .Name y _, .Name z _], [_, _, _] => decide (i ≠ j) && decide (i ≠ l) && decide (j ≠ l) && decide (names = [x, y, z]) && c.lcl x && c.lcl y && c.lcl z && decide (c.N[i]? = some x) && decide (c.N[j]? = some y) && decide (c.N[l]? = some z)
  | _, _, _ => false
mutual
def chkS : S → CC → Stmt → Bool
  | .set i e, c, x => match x with
    | .Assign [.Name y py] v pos => c.loc i y && chkE e c v && ((notComp v || !c.lcl y) || (match v with
      | .ListComp _ [_] scope p => (match e with
        | .comp .. => decide (c.sc.names.lookup y = some .local) && (py.line == p.line) && !(scope.names.any fun (n, k) => n == y && (k == .local || k == .cell))
        | _ => false)
      | _ => false))
    | _ => false
  | .setT js e, c, x => match x with
    | .Assign [.Tuple ts _ _] v _ => chkTgs c js ts && chkE e c v && (match v with
      | .Tuple vs _ _ => (match swp c.sc ts vs with
        | some none => true
        | some (some names) => chkPar c js ts vs names && (match e with
            | .tup _ => true
            | _ => false)
        | none => false)
      | v => notComp v)
    | _ => false
  | .setI o i e, c, x => match x with
    | .Assign [.Subscript l r _] v _ => notSlice r && notComp v && chkE e c v && chkE o c l && chkE i c r
    | _ => false
  | .aug i op e, c, x => match x with
    | .AugAssign (.Name y _) o v _ => decide (o = op.op) && (decide (op = .add) || decide (op = .sub) || decide (op = .mul)) && c.loc i y && chkE e c v
    | _ => false
  | .augI _ _ _ _, _, _ => false
  | .expr e, c, x => match x with
    | .Expr v _ => notComp v && chkE e c v
    | _ => false
  | .ret e, c, x => match x with
    | .Return (some v) _ => chkE e c v
    | _ => false
  | .retN, _, x => match x with
    | .Return none _ => true
    | _ => false
  | .ite t a b, c, x => match x with
    | .If u p q _ => chkE t c u && chkSs a c p && chkSs b c q
    | _ => false
  | .whl t b, c, x => match x with
    | .While u p [] _ => chkE t c u && chkSs b c p
    | _ => false
  | .for_ tg i b, c, x => match x with
    | .For tgE iter p [] _ => chkTg c tg tgE && chkI i c tgE iter && notSet iter && chkSs b c p
    | _ => false
  | .brk, _, x => match x with
    | .Break _ => true
    | _ => false
  | .cnt, _, x => match x with
    | .Continue _ => true
    | _ => false
  | .pass, _, x => match x with
    | .Pass _ => true
    | _ => false
  | .raise _ _, _, _ => false
  | .try_ _ _ _ _, _, _ => false
  | .never, _, _ => true
def chkSs : Ss → CC → List Stmt → Bool
  | .nil, _, xs => match xs with
    | [] => true
    | _ => false
  | .cons s r, c, xs => match xs with
    | x :: xs => chkS s c x && chkSs r c xs
    | _ => false
end

/-! ### soundness -/
def FnsOk (P : Program) (w : World) (K : PySem.W.Frag) (mg : Str → Option Value) (base : Heap) (XC : XCT) (CF : CallF) (k : Nat) (shp : List Sh) : Prop := ∀ sh ∈ shp, ∃ (fp : Addr) (fd : FuncData) (ps : List Str),
  FnOk P w K mg base CX0 k fp fd ps (spL P w K XC CF sh.f ps.length) ∧ mg sh.f = some (.ref fp) ∧ PySem.W.keepIn K (.ref fp) = true ∧ ShOk K fd ps sh.n sh.ks sh.dd
def GlOk (K : PySem.W.Frag) (mg : Str → Option Value) (Γ : Str → Option D) (gl : List Str) : Prop := ∀ x ∈ gl, ∃ (d : D) (u : Value) (v : V), Γ x = some d ∧ mg x = some u ∧ L2.RelV v u ∧ ∀ ι H, RV K ι H v d
structure XOk (X : Cx) (XC : XCT) (CF : CallF) (Γ : Str → Option D) (c : CC) : Prop where
  sc : X.env.scope = c.sc
  kind : c.sc.kind = .function
  N : X.N = c.N
  nd : c.N.Nodup
  calm : X.calm = true
  fn : ∀ x, c.fn x = true → X.fn x = true
  fns : ∃ k, Room k X.A ∧ FnsOk X.prog X.w X.K X.mg X.base XC CF k c.shp
  gl : GlOk X.K X.mg Γ c.gl
  bl : ∀ b ∈ c.bl, X.mg b = none
section
variable {X : Cx} {XC : XCT} {W : WT} {CF : CallF} {Γ : Str → Option D} {c : CC}
theorem XOk.hu (h : XOk X XC CF Γ c) : X.A.units + 150 < cLine := by
  obtain ⟨k, r, _⟩ := h.fns
  have := r.un
  omega
theorem XOk.blk (h : XOk X XC CF Γ c) {scope : Scope} (hk : scope.kind = .function) (s : Shared) (H : Hp) (C : Addr) (cl : List (Str × Addr)) (fp : List Addr) : XOk (X.blk s H scope (compEnvC scope cl C X.env) fp) XC CF Γ (c.blk scope) where
  sc := by show relS scope X.env.scope = _; rw [h.sc]; rfl
  kind := hk
  N := h.N
  nd := h.nd
  calm := h.calm
  fn := fun x e => e
  fns := h.fns
  gl := h.gl
  bl := h.bl
theorem XOk.glb (h : XOk X XC CF Γ c) {x : Str} (e : c.glb x = true) : Gl X x := by
  have e := of_decide_eq_true e
  show X.env.scope.names.lookup x = _
  rw [h.sc]; exact e
theorem XOk.blt (h : XOk X XC CF Γ c) {x : Str} {v : Value} (e : c.blt x = true) (hb : bootBuiltins x = some v) (hn : x ≠ "__name__") (hd : (x == ("__debug__" : Str)) = false) : Blt X x v := by
  unfold CC.blt at e
  rw [Bool.and_eq_true] at e
  exact ⟨h.glb e.1, h.bl _ (of_decide_eq_true e.2), hb, hn, hd⟩
theorem XOk.loc (h : XOk X XC CF Γ c) {i : Nat} {x : Str} (e : c.loc i x = true) : X.N[i]? = some x ∧ Loc X.env.scope x ∧ (X.fn x = true ∨ X.env.scope.names.lookup x = some .local) := by
  unfold CC.loc at e
  simp only [Bool.and_eq_true, Bool.or_eq_true, decide_eq_true_eq] at e
  rw [h.N, h.sc]
  refine ⟨e.1, ?_, ?_⟩
  · rcases e.2 with q | q
    · exact .inl q
    · exact .inr q.1
  · rcases e.2 with q | q
    · exact .inr q
    · exact .inl (h.fn _ q.2)
theorem star_of {e : Expr} {r : List Expr} {env : PySem.Env} (h : notStar e = true) : starEach (e :: r) env = (false, eval e env) :: starEach r env := by
  cases e <;> first | rfl | cases h
theorem star1 {e : Expr} {env : PySem.Env} (h : notStar e = true) : starEach [e] env = [(false, eval e env)] := star_of h
theorem star2 {e f : Expr} {env : PySem.Env} (h : notStar e = true) (h2 : notStar f = true) : starEach [e, f] env = [(false, eval e env), (false, eval f env)] := by rw [star_of h, star1 h2]
theorem star_plain {env : PySem.Env} (pos : Pos) : ∀ {es : List Expr}, (∀ e ∈ es, notStar e = true) → (backTo pos (starEach es env)).any (·.1) = false
  | [], _ => rfl
  | e :: es, h => by
    rw [star_of (h e (List.mem_cons_self ..))]
    have := star_plain (env := env) pos (es := es) fun x hx => h x (List.mem_cons_of_mem _ hx)
    unfold backTo at this ⊢
    rw [List.map_cons, List.any_cons, this]
    rfl
theorem set_of {e : Expr} {env : PySem.Env} (h : notSet e = true) (x : Value) : foldedSetIterable e env x = pure x := by
  cases e <;> first | rfl | cases h
theorem ix_of {e : Expr} (h : notSlice e = true) : PlainIx e := fun o i => by
  cases e <;> first | rfl | cases h
theorem sw_of {e : Expr} {t : Option Expr} {l : Nat} {env : PySem.Env} (h : notComp e = true) : swapsWith e t l env = pure false := by
  cases e <;> first | rfl | cases h
theorem base_of {e : Expr} {a : Str} {env : PySem.Env} {wh : Sem Value} (h : notCall e = true) : attributeBase e a env wh = wh := by
  cases e <;> first | rfl | cases h
theorem plain_of {e : Expr} {env : PySem.Env} (h : plainT e = true) (wh : Sem Value) : isTrue e env wh = (do let v ← wh; standAt e.pos; holding [v] (truthy v)) := by
  cases e <;> first | rfl | cases h
theorem tg_names {env : PySem.Env} : ∀ {js : List Nat} {es : List Expr}, chkTgs c js es = true → (assignEach es env).length = js.length ∧ (assignEach es env).findIdx? (·.1) = none
  | [], [], _ => ⟨rfl, rfl⟩
  | j :: js, .Name x p :: es, h => by
    simp only [chkTgs, Bool.and_eq_true] at h
    obtain ⟨h1, h2⟩ := tg_names (env := env) h.2
    have e : assignEach (.Name x p :: es) env = (false, assign (.Name x p) env) :: assignEach es env := rfl
    rw [e]
    refine ⟨by simp [h1], ?_⟩
    rw [List.findIdx?_cons, h2]
    rfl
  | [], _ :: _, h => by simp [chkTgs] at h
  | _ :: _, [], h => by simp [chkTgs] at h
theorem pgs_of (xo : XOk X XC CF Γ c) : ∀ {js : List Nat} {es : List Expr}, chkTgs c js es = true → PGs X es (gSeq js)
  | [], [], _ => pgs_nil
  | j :: js, .Name x p :: es, h => by
    simp only [chkTgs, Bool.and_eq_true] at h
    obtain ⟨h1, h2, h3⟩ := xo.loc h.1
    exact pgs_cons (pg_name (xo.N ▸ xo.nd) h1 h2 h3) (pgs_of xo h.2)
  | [], _ :: _, h => by simp [chkTgs] at h
  | _ :: _, [], h => by simp [chkTgs] at h
theorem pg_of (xo : XOk X XC CF Γ c) {tg : Tg} {tgE : Expr} (h : chkTg c tg tgE = true) : PG X tgE (gOf X.K tg) := by
  unfold chkTg at h
  split at h
  · obtain ⟨h1, h2, h3⟩ := xo.loc h
    exact pg_name (xo.N ▸ xo.nd) h1 h2 h3
  · obtain ⟨h1, h2⟩ := tg_names (env := X.env) h
    exact pg_tup xo.calm (pgs_of xo h) h1 h2
  · cases h
theorem nd_of (xo : XOk X XC CF Γ c) : X.N.Nodup := xo.N ▸ xo.nd
/-- a chain, as a test -/
theorem t_chain {a b d : Expr} {fa fb fc : LK.Env → Hpp → Res R} {pos : Pos} {o p : Cop} (hu : X.A.units + 150 < cLine) (hm : lastMarks [o.op, p.op] [b, d] = false) (ha : PE X a (tR X XC W fa)) (hb : PE X b (tR X XC W fb)) (hc : PE X d (tR X XC W fc)) : PT X (.Compare a [o.op, p.op] [b, d] pos)
    (tT X XC W fun ρ G => (fa ρ G).bind fun x G1 => (fb ρ G1).bind fun y G2 => match cmpR o x y G2 with
    | some true => (fc ρ G2).bind fun z G3 => optB (cmpR p y z G3) G3
    | some false => okV (.bl false) G2
    | none => .bad) := by
  refine ⟨fun pins s σ H Q I ⟨ι, ρ, G, hr, er, h⟩ => ?_⟩
  have h' : Post X.prog X.w X.K RelB XC W ι H (fun _ _ _ H' v => Q v H') ((fa ρ G).bind fun x G1 => (fb ρ G1).bind fun y G2 => match cmpR o x y G2 with
    | some true => (fc ρ G2).bind fun z G3 => (optB (cmpR p y z G3) G3).bind asB
    | some false => .ok false G2
    | none => .bad) := by
    dsimp only at h
    cases e1 : fa ρ G with
    | ok x G1 =>
      simp only [e1, okB] at h ⊢
      cases e2 : fb ρ G1 with
      | ok y G2 =>
        simp only [e2, okB] at h ⊢
        split at h
        · cases e3 : fc ρ G2 <;> simp only [e3, okB, exB, bdB] at h ⊢ <;> exact h
        · exact h
        · exact h
      | ex _ _ _ => simp only [e2, exB] at h ⊢; exact h
      | bad => simp only [e2, bdB] at h ⊢; exact h
    | ex _ _ _ => simp only [e1, exB] at h ⊢; exact h
    | bad => simp only [e1, bdB] at h ⊢; exact h
  refine isTrue_chain (thn (ha.run pins s σ H _ I (step hr er h')) fun v s1 ⟨x, H1, I1, r1, rx, ι1, G1, f1, hr1, er1, q1, h1⟩ => test_link (
    thn (hb.run pins s1 σ H1 _ I1 (step2 f1 hr1 er1 (fun _ _ _ _ q => q) h1)) fun u s2 ⟨y, H2, I2, r2, ry, ι2, G2, f2, hr2, er2, q2, h2⟩ => ?_)) hm
  try dsimp only at h2
  split at h2
  · rename_i e
    refine thn (cmp_ok (Q := fun v H' => v = .bl true ∧ H' = H2) hu I2 hr2 r1 r2 (q1.go hr1 f2) q2 e ⟨rfl, rfl⟩) fun d s3 ⟨z, H3, I3, r3, e1, e2⟩ => ?_
    subst e1 e2
    cases r3
    refine wpAny_truthy_bool (ite_tt (test_last (thn (hc.run pins s3 σ H3 _ I3 (step2 f2 hr2 er2 (fun _ _ _ _ q => q) h2)) fun w' s4 ⟨z', H4, I4, r4, rz, ι4, G4, f4, hr4, er4, q4, h4⟩ => ?_)))
    try dsimp only at h4
    cases e : cmpR p ry rz G4 with
    | none => rw [e] at h4; exact h4.elim
    | some k =>
      rw [e] at h4
      refine thn (cmp_ok (Q := fun v H' => v = .bl k ∧ H' = H4) hu I4 hr4 r2 r4 (q2.go hr2 f4) q4 e ⟨rfl, rfl⟩) fun d s5 ⟨z2, H5, I5, r5, e1, e2⟩ => ?_
      subst e1 e2
      cases r5
      exact wpAny_truthy_bool ⟨H5, I5, h4 ι4 H5 k f4 hr4 rfl⟩
  · rename_i e
    refine thn (cmp_ok (Q := fun v H' => v = .bl false ∧ H' = H2) hu I2 hr2 r1 r2 (q1.go hr1 f2) q2 e ⟨rfl, rfl⟩) fun d s3 ⟨z, H3, I3, r3, e1, e2⟩ => ?_
    subst e1 e2
    cases r3
    exact wpAny_truthy_bool (ite_ff ⟨H3, I3, h2 ι2 H3 false f2 hr2 rfl⟩)
  · exact h2.elim
theorem t_ite {t a b : Expr} {f fa fb : LK.Env → Hpp → Res R} {pos : Pos} (ht : PT X t (tT X XC W f)) (ha : PT X a (tT X XC W fa)) (hb : PT X b (tT X XC W fb)) : PT X (.IfExp t a b pos) (tT X XC W fun ρ G => (f ρ G).bind fun x G1 => match x with
    | .val (.bl true) => fa ρ G1
    | .val (.bl false) => fb ρ G1
    | _ => .bad) := by
  refine ⟨fun pins s σ H Q I ⟨ι, ρ, G, hr, er, h⟩ => ?_⟩
  have h : Post X.prog X.w X.K RelB XC W ι H (fun _ _ _ H' v => Q v H') (((f ρ G).bind asB).bind fun c G1 => if c = true then (fa ρ G1).bind asB else (fb ρ G1).bind asB) := by
    dsimp only at h
    cases e1 : f ρ G with
    | ok x G1 =>
      rw [e1, okB] at h
      rw [okB]
      cases x with
      | val d =>
        cases d with
        | bl b => cases b <;> exact h
        | _ => exact h
      | _ => exact h
    | ex _ _ _ => rw [e1] at h; exact h
    | bad => rw [e1] at h; exact h
  refine isTrue_IfExp (thn (ht.run pins s σ H _ I (stepT hr er h)) fun c s1 ⟨H1, I1, b', ι1, G1, f1, hr1, er1, e1, h1⟩ => ?_)
  have e1 : c = b' := e1
  subst e1
  dsimp only at h1
  cases c with
  | true => exact ite_tt (ha.run pins s1 σ H1 _ I1 ⟨ι1, ρ, G1, hr1, er1, h1.shift hr1 f1 (fun _ _ _ _ q => q)⟩)
  | false => exact ite_ff (hb.run pins s1 σ H1 _ I1 ⟨ι1, ρ, G1, hr1, er1, h1.shift hr1 f1 (fun _ _ _ _ q => q)⟩)
theorem pts_of {e : Expr} {f : LK.Env → Hpp → Res R} (h : PT X e (tT X XC W f)) : PTs X [e] (tX X XC W RelB fun ρ G => (f ρ G).bind fun x G1 => match x with
    | .val (.bl true) => .ok true G1
    | .val (.bl false) => .ok false G1
    | _ => .bad) := by
  have q : PTs X [e] (tT X XC W f) := pts_one h
  refine ⟨fun pins s σ H Q I ⟨ι, ρ, G, hr, er, h⟩ => q.run pins s σ H Q I ⟨ι, ρ, G, hr, er, ?_⟩⟩
  dsimp only at h
  show Post X.prog X.w X.K RelB XC W ι H (fun _ _ _ H' v => Q v H') ((f ρ G).bind asB)
  cases e1 : f ρ G with
  | ok x G1 =>
    rw [e1, okB] at h
    rw [okB]
    cases x with
    | val d =>
      cases d with
      | bl b => cases b <;> exact h
      | _ => exact h
    | _ => exact h
  | ex _ _ _ => rw [e1] at h; exact h
  | bad => rw [e1] at h; exact h
theorem pts_nil' : PTs X [] (tX X XC W RelB fun _ G => .ok true G) :=
  ⟨fun pins s σ H Q I ⟨ι, ρ, G, hr, er, h⟩ => pts_nil.run pins s σ H Q I (h ι H true .refl hr rfl)⟩
end
end LK

set_option Elab.async false
set_option linter.all false
set_option autoImplicit false
set_option maxRecDepth 100000
set_option maxHeartbeats 4000000
/-! LkSnd: what the checker passes does what the language says: expressions. -/
namespace LK
open PySem PySem.Spec PyProof.Rows L2

section
variable {XC : XCT} {CF : CallF} {Γ : Str → Option D}
def OkX (X : Cx) (XC : XCT) (W : WT) (x : Expr) (f : Env → Hpp → Res R) : Prop := PE X x (tR X XC W f) ∧ PT X x (tT X XC W f) ∧ ∀ op vs pos, x = .BoolOp op vs pos → PW X x (tT X XC W f)
theorem OkX.plain {X : Cx} {W : WT} {x : Expr} {f : Env → Hpp → Res R} (hp : plainT x = true) (h : PE X x (tR X XC W f)) : OkX X XC W x f := ⟨h, t_val h (plain_of hp), fun op vs pos e => by subst e; cases hp⟩
def OkL (X : Cx) (XC : XCT) (W : WT) (CF : CallF) (Γ : Str → Option D) (xs : List Expr) (es : Es) : Prop := PA X xs (tA X XC W (evs CF Γ es)) ∧ (∀ ρ G ds G', evs CF Γ es ρ G = .ok ds G' → ds.length = xs.length) ∧ (∀ x ∈ xs, notStar x = true) ∧ (xs = [] → es = .nil)
def OkK (X : Cx) (XC : XCT) (W : WT) (CF : CallF) (Γ : Str → Option D) (xs : List Keyword) (es : Es) : Prop := PK X xs (tA X XC W (evs CF Γ es)) ∧ (∀ ρ G ds G', evs CF Γ es ρ G = .ok ds G' → ds.length = xs.length)
theorem evs_len {e : E} {r : Es} {n : Nat} (h : ∀ ρ G ds G', evs CF Γ r ρ G = .ok ds G' → ds.length = n) : ∀ ρ G ds G', evs CF Γ (.cons e r) ρ G = .ok ds G' → ds.length = n + 1 := fun ρ G ds G' q => by
  rw [evs] at q
  cases e1 : (ev CF Γ e ρ G).bind toD with
  | ok d G1 =>
    rw [e1, okB] at q
    cases e2 : evs CF Γ r ρ G1 with
    | ok ds' G2 =>
      rw [e2, okB] at q
      cases q
      rw [List.length_cons, h _ _ _ _ e2]
    | ex _ _ _ => rw [e2] at q; cases q
    | bad => rw [e2] at q; cases q
  | ex _ _ _ => rw [e1] at q; cases q
  | bad => rw [e1] at q; cases q
theorem part_ne {e : E} {f : Hpp → Res R} {G : Hpp} (h : isNon e = false) : partF e f G = (f G).bind fun r G1 => match r with
    | .val (.int i) => .ok (some i) G1
    | _ => .bad := by
  cases e <;> first | rfl | cases h
theorem kws_names : ∀ {kws : List Keyword}, (kws.all fun k => k.arg.isSome) = true → kws.map Keyword.arg = (kws.map fun k => k.arg.getD "").map some
  | [], _ => rfl
  | ⟨some a, e, p⟩ :: kws, h => by
    rw [List.all_cons, Bool.and_eq_true] at h
    rw [List.map_cons, kws_names h.2]
    rfl
  | ⟨none, e, p⟩ :: kws, h => by
    rw [List.all_cons, Bool.and_eq_true] at h
    cases h.1
theorem own_sl {c : CC} {tg : Tg} : (c.own tg).map (·.2) = tg.sl := by
  unfold CC.own
  rw [List.map_map]
  exact List.map_id _
theorem val_nm {b : Sb} (h : b ≠ .sortedR) : bootBuiltins b.nm = some b.val ∧ b.nm ≠ "__name__" ∧ (b.nm == ("__debug__" : Str)) = false := by
  cases b <;> first
    | exact ⟨by decide +kernel, by decide, by decide⟩
    | exact absurd rfl h
theorem ty_nm (t : Ty) : bootBuiltins t.sn = some (.type t.nm) ∧ t.sn ≠ "__name__" ∧ (t.sn == ("__debug__" : Str)) = false := by
  cases t <;> exact ⟨by decide +kernel, by decide, by decide⟩
theorem m1_slot (m : M1) : Slot "list" m.nm m.id ∧ typeOf (.builtin m.id) = pure (.type "method_descriptor") := by
  cases m
  · exact ⟨PySem.F.slot_list_append, PySem.F.type_list_append⟩
  · exact ⟨PySem.F.slot_list_extend, PySem.F.type_list_extend⟩
  · exact ⟨PySem.F.slot_list_remove, PySem.F.type_list_remove⟩
  · exact ⟨PySem.F.slot_list_pop, PySem.F.type_list_pop⟩
  · exact ⟨PySem.F.slot_list_index, PySem.F.type_list_index⟩
  · exact ⟨PySem.F.slot_list_count, PySem.F.type_list_count⟩
theorem m0_slot (m : M0) : Slot "list" m.nm m.id ∧ typeOf (.builtin m.id) = pure (.type "method_descriptor") := by
  cases m
  exact ⟨PySem.F.slot_list_pop, PySem.F.type_list_pop⟩
theorem pe_bool1 {X : Cx} {e : Expr} {op : BoolOp} {pos : Pos} {t : TE} (h : PE X e t) : PE X (.BoolOp op [e] pos) t := ⟨fun pins s σ H Q I q => h.run pins s σ H Q I q⟩
mutual
theorem okE : ∀ (e : E) {c : CC} {x : Expr} {X : Cx} {W : WT}, XOk X XC CF Γ c → chkE e c x = true → OkX X XC W x (ev CF Γ e)
  | .int i, c, x, X, W, xo, h => by
    unfold chkE at h
    split at h
    · have e := eq_of_beq h
      subst e
      exact .plain rfl x_int
    · cases h
  | .bl i, c, x, X, W, xo, h => by
    unfold chkE at h
    split at h
    · have e := eq_of_beq h
      subst e
      exact .plain rfl x_bl
    · cases h
  | .non, c, x, X, W, xo, h => by
    unfold chkE at h
    split at h
    · exact .plain rfl x_non
    · cases h
  | .str z, c, x, X, W, xo, h => by
    unfold chkE at h
    split at h
    · have e := of_decide_eq_true h
      subst e
      exact .plain rfl x_str
    · cases h
  | .var i, c, x, X, W, xo, h => by
    unfold chkE at h
    split at h
    · unfold CC.vis at h
      simp only [Bool.and_eq_true, Bool.or_eq_true, decide_eq_true_eq, Bool.not_eq_true'] at h
      obtain ⟨⟨⟨h1, h2⟩, h3⟩, h4⟩ := h
      refine .plain rfl (x_var (by rw [xo.N]; exact h1) ?_ h3 h4)
      rw [xo.sc]
      rcases h2 with (h2 | h2) | h2
      · exact .inl h2
      · exact .inr (.inl h2)
      · exact .inr (.inr h2)
    · cases h
  | .glob z, c, x, X, W, xo, h => by
    unfold chkE at h
    split at h
    · simp only [Bool.and_eq_true, decide_eq_true_eq, Bool.not_eq_true'] at h
      obtain ⟨⟨⟨h1, h2⟩, h3⟩, h4⟩ := h
      subst h1
      obtain ⟨d, u, v, e1, e2, r, hv⟩ := xo.gl _ h3
      have q := x_glob (W := W) (XC := XC) (xo.glb h2) e2 r h4 hv (pos := by assumption)
      refine .plain rfl ?_
      have e : ev CF Γ (.glob z) = fun _ G => okV d G := by funext ρ G; rw [ev, e1]
      rw [e]
      exact q
    · cases h
  | .tup es, c, x, X, W, xo, h => by
    unfold chkE at h
    split at h
    · simp only [Bool.and_eq_true, decide_eq_true_eq] at h
      obtain ⟨a1, a2, a3, a4⟩ := okEs es (W := W) xo h.2
      exact .plain rfl (x_tup a1 h.1 a2)
    · cases h
  | .lst es, c, x, X, W, xo, h => by
    unfold chkE at h
    split at h
    · simp only [Bool.and_eq_true, decide_eq_true_eq] at h
      obtain ⟨a1, a2, a3, a4⟩ := okEs es (W := W) xo h.2
      exact .plain rfl (x_lst a1 h.1 a2)
    · cases h
  | .dnew t, c, x, X, W, xo, h => by
    unfold chkE at h
    split at h
    · exact .plain rfl x_dnew
    · cases h
  | .bin op a b, c, x, X, W, xo, h => by
    unfold chkE at h
    split at h
    · simp only [Bool.and_eq_true, decide_eq_true_eq] at h
      obtain ⟨⟨h1, h2⟩, h3⟩ := h
      subst h1
      exact .plain rfl (x_bin xo.hu (okE a (W := W) xo h2).1 (okE b (W := W) xo h3).1)
    · cases h
  | .neg a, c, x, X, W, xo, h => by
    unfold chkE at h
    split at h
    · have q := x_neg xo.hu (okE a (W := W) xo h).1 (pos := by assumption)
      exact ⟨q, t_val q fun _ => rfl, fun _ _ _ e => by cases e⟩
    · cases h
  | .cmp op a b, c, x, X, W, xo, h => by
    unfold chkE at h
    split at h
    · simp only [Bool.and_eq_true, decide_eq_true_eq, Bool.not_eq_true'] at h
      obtain ⟨⟨⟨h1, h2⟩, h3⟩, h4⟩ := h
      subst h1
      exact ⟨x_cmp xo.hu h2 (okE a (W := W) xo h3).1 (okE b (W := W) xo h4).1, t_cmp xo.hu h2 (okE a (W := W) xo h3).1 (okE b (W := W) xo h4).1, fun _ _ _ e => by cases e⟩
    · cases h
  | .chain o p a b d, c, x, X, W, xo, h => by
    unfold chkE at h
    split at h
    · simp only [Bool.and_eq_true, decide_eq_true_eq, Bool.not_eq_true'] at h
      obtain ⟨⟨⟨⟨⟨h1, h2⟩, h3⟩, h4⟩, h5⟩, h6⟩ := h
      subst h1 h2
      exact ⟨x_chain xo.hu h3 (okE a (W := W) xo h4).1 (okE b (W := W) xo h5).1 (okE d (W := W) xo h6).1, t_chain xo.hu h3 (okE a (W := W) xo h4).1 (okE b (W := W) xo h5).1 (okE d (W := W) xo h6).1, fun _ _ _ e => by cases e⟩
    · cases h
  | .and a b, c, x, X, W, xo, h => by
    unfold chkE at h
    split at h
    · rw [Bool.and_eq_true] at h
      obtain ⟨h1, h2⟩ := h
      obtain ⟨a1, a2, a3⟩ := okE a (W := W) xo h1
      split at h2
      · obtain ⟨b1, b2, b3⟩ := okE b (W := W) xo h2
        have w := w_and a2 (w_and1 (pos := by assumption) b2)
        exact ⟨x_and a1 (pe_bool1 b1), w.pt, fun _ _ _ _ => w⟩
      · obtain ⟨b1, b2, b3⟩ := okE b (W := W) xo h2
        have w := w_and a2 (b3 _ _ _ rfl)
        exact ⟨x_and a1 b1, w.pt, fun _ _ _ _ => w⟩
    · cases h
  | .or a b, c, x, X, W, xo, h => by
    unfold chkE at h
    split at h
    · rw [Bool.and_eq_true] at h
      obtain ⟨h1, h2⟩ := h
      obtain ⟨a1, a2, a3⟩ := okE a (W := W) xo h1
      split at h2
      · obtain ⟨b1, b2, b3⟩ := okE b (W := W) xo h2
        have w := w_or a2 (w_or1 (pos := by assumption) b2)
        exact ⟨x_or a1 (pe_bool1 b1), w.pt, fun _ _ _ _ => w⟩
      · obtain ⟨b1, b2, b3⟩ := okE b (W := W) xo h2
        have w := w_or a2 (b3 _ _ _ rfl)
        exact ⟨x_or a1 b1, w.pt, fun _ _ _ _ => w⟩
    · cases h
  | .not a, c, x, X, W, xo, h => by
    unfold chkE at h
    split at h
    · obtain ⟨a1, a2, a3⟩ := okE a (W := W) xo h
      exact ⟨x_not a1, t_not a2, fun _ _ _ e => by cases e⟩
    · cases h
  | .ite t a b, c, x, X, W, xo, h => by
    unfold chkE at h
    split at h
    · simp only [Bool.and_eq_true] at h
      obtain ⟨⟨h1, h2⟩, h3⟩ := h
      obtain ⟨t1, t2, t3⟩ := okE t (W := W) xo h1
      obtain ⟨a1, a2, a3⟩ := okE a (W := W) xo h2
      obtain ⟨b1, b2, b3⟩ := okE b (W := W) xo h3
      exact ⟨x_ite t2 a1 b1, t_ite t2 a2 b2, fun _ _ _ e => by cases e⟩
    · cases h
  | .idx a i, c, x, X, W, xo, h => by
    unfold chkE at h
    split at h
    · simp only [Bool.and_eq_true] at h
      obtain ⟨⟨h1, h2⟩, h3⟩ := h
      exact .plain rfl (x_idx xo.hu (okE a (W := W) xo h2).1 (okE i (W := W) xo h3).1 (ix_of h1))
    · cases h
  | .slc a lo hi, c, x, X, W, xo, h => by
    unfold chkE at h
    split at h
    · simp only [Bool.and_eq_true] at h
      obtain ⟨⟨h1, h2⟩, h3⟩ := h
      have part : ∀ (e : E) (p : Option Expr), (∀ p', p = some p' → chkE e c p' = true → PE X p' (tR X XC W (ev CF Γ e))) → (match p with
          | none => isNon e
          | some p => !isNon e && chkE e c p) = true → PO X p (tP X XC W fun ρ G => partF e (fun G2 => ev CF Γ e ρ G2) G) := by
        intro e p hp hh
        cases p with
        | none =>
          have e1 : e = .non := by cases e <;> first | rfl | cases hh
          subst e1
          exact p_none
        | some p =>
          simp only [Bool.and_eq_true, Bool.not_eq_true'] at hh
          have e1 : (fun (ρ : Env) (G : Hpp) => partF e (fun G2 => ev CF Γ e ρ G2) G) = fun ρ G => (ev CF Γ e ρ G).bind fun r G1 => match r with
            | .val (.int i) => .ok (some i) G1
            | _ => .bad := by
            funext ρ G
            exact part_ne hh.1
          rw [e1]
          exact p_some (hp p rfl hh.2)
      exact .plain rfl (x_slc (okE a (W := W) xo h1).1 (part lo _ (fun p' e q => (okE lo (W := W) xo q).1) h2) (part hi _ (fun p' e q => (okE hi (W := W) xo q).1) h3))
    · cases h
  | .call f es ks dd, c, x, X, W, xo, h => by
    unfold chkE at h
    split at h
    · simp only [Bool.and_eq_true, decide_eq_true_eq, Bool.not_eq_true'] at h
      obtain ⟨⟨⟨⟨⟨⟨h1, h2⟩, h3⟩, h4⟩, h5⟩, h6⟩, h7⟩ := h
      subst h1
      obtain ⟨a1, a2, a3, a4⟩ := okEs es (W := W) xo h6
      obtain ⟨b1, b2⟩ := okKs ks (W := W) xo h7
      obtain ⟨k, hr, hf⟩ := xo.fns
      obtain ⟨fp, fd, ps, F, m, kp, sh⟩ := hf _ h4
      refine .plain rfl (x_call F hr (xo.glb h2) m kp h3 sh (fun _ _ _ _ _ _ _ z => z.elim) a1 b1 (kws_names h5) a2 (fun ρ G ds G' q => by rw [b2 ρ G ds G' q, List.length_map]) (fun e r q => star_of (a3 e (by rw [q]; exact List.mem_cons_self ..))) (fun pos => star_plain pos a3) fun q => ?_)
      have e := a4 q
      subst e
      rfl
    · cases h
  | .len a, c, x, X, W, xo, h => by
    unfold chkE at h
    split at h
    · simp only [Bool.and_eq_true, decide_eq_true_eq] at h
      obtain ⟨⟨⟨h1, h2⟩, h3⟩, h4⟩ := h
      subst h1
      exact .plain rfl (x_len (xo.blt h2 boot_len (by decide) (by decide)) (okE a (W := W) xo h4).1 (star1 h3))
    · cases h
  | .abs a, c, x, X, W, xo, h => by
    unfold chkE at h
    split at h
    · simp only [Bool.and_eq_true, decide_eq_true_eq] at h
      obtain ⟨⟨⟨h1, h2⟩, h3⟩, h4⟩ := h
      subst h1
      exact .plain rfl (x_abs (xo.blt h2 (by decide +kernel) (by decide) (by decide)) (okE a (W := W) xo h4).1 (star1 h3))
    · cases h
  | .int1 a, c, x, X, W, xo, h => by
    unfold chkE at h
    split at h
    · simp only [Bool.and_eq_true, decide_eq_true_eq] at h
      obtain ⟨⟨⟨h1, h2⟩, h3⟩, h4⟩ := h
      subst h1
      exact .plain rfl (x_int1 (xo.blt h2 (by decide +kernel) (by decide) (by decide)) (okE a (W := W) xo h4).1 (star1 h3))
    · cases h
  | .min2 a b, c, x, X, W, xo, h => by
    unfold chkE at h
    split at h
    · simp only [Bool.and_eq_true, decide_eq_true_eq] at h
      obtain ⟨⟨⟨⟨⟨h1, h2⟩, h3⟩, h3'⟩, h4⟩, h5⟩ := h
      subst h1
      exact .plain rfl (x_min2 xo.hu xo.calm (xo.blt h2 (by decide +kernel) (by decide) (by decide)) (okE a (W := W) xo h4).1 (okE b (W := W) xo h5).1 (star2 h3 h3') (star1 h3'))
    · cases h
  | .max2 a b, c, x, X, W, xo, h => by
    unfold chkE at h
    split at h
    · simp only [Bool.and_eq_true, decide_eq_true_eq] at h
      obtain ⟨⟨⟨⟨⟨h1, h2⟩, h3⟩, h3'⟩, h4⟩, h5⟩ := h
      subst h1
      exact .plain rfl (x_max2 xo.hu xo.calm (xo.blt h2 (by decide +kernel) (by decide) (by decide)) (okE a (W := W) xo h4).1 (okE b (W := W) xo h5).1 (star2 h3 h3') (star1 h3'))
    · cases h
  | .isi a t, c, x, X, W, xo, h => by
    unfold chkE at h
    split at h
    · simp only [Bool.and_eq_true, decide_eq_true_eq] at h
      obtain ⟨⟨⟨⟨⟨h1, h2⟩, h3⟩, h4⟩, h5⟩, h6⟩ := h
      subst h1 h4
      obtain ⟨t1, t2, t3⟩ := ty_nm t
      exact .plain rfl (x_isi (xo.blt h2 (by decide +kernel) (by decide) (by decide)) (xo.blt h5 t1 t2 t3) (okE a (W := W) xo h6).1 (star2 h3 rfl))
    · cases h
  | .seq b a, c, x, X, W, xo, h => by
    unfold chkE at h
    split at h
    · simp only [Bool.and_eq_true, decide_eq_true_eq] at h
      obtain ⟨⟨⟨⟨h1, h2⟩, h3⟩, h4⟩, h5⟩ := h
      subst h1
      obtain ⟨t1, t2, t3⟩ := val_nm h2
      exact .plain rfl (x_seq xo.hu xo.calm (xo.blt h3 t1 t2 t3) (okE a (W := W) xo h5).1 (star1 h4))
    · cases h
  | .lrng a b, c, x, X, W, xo, h => by
    unfold chkE at h
    split at h
    · simp only [Bool.and_eq_true, decide_eq_true_eq] at h
      obtain ⟨⟨⟨⟨⟨⟨⟨h1, h2⟩, h3⟩, h4⟩, h5⟩, h6⟩, h7⟩, h8⟩ := h
      subst h1 h2
      exact .plain rfl (x_lrng2 xo.calm (xo.blt h3 boot_list (by decide) (by decide)) (xo.blt h4 boot_range (by decide) (by decide)) (okE a (W := W) xo h7).1 (okE b (W := W) xo h8).1 (star_of h5) (star_of h6) (by rw [star_of h6]; rfl))
    · simp only [Bool.and_eq_true, decide_eq_true_eq] at h
      obtain ⟨⟨⟨⟨⟨⟨h1, h2⟩, h3⟩, h4⟩, h5⟩, h6⟩, h7⟩ := h
      subst h1 h2
      have ea : a = .int 0 := by
        unfold isZero at h6
        split at h6
        · rw [eq_of_beq h6]
        · cases h6
      subst ea
      exact .plain rfl (x_lrng1 xo.calm (xo.blt h3 boot_list (by decide) (by decide)) (xo.blt h4 boot_range (by decide) (by decide)) (okE b (W := W) xo h7).1 (star_of h5))
    · cases h
  | .comp e tg i ifs, c, x, X, W, xo, h => by
    unfold chkE at h
    split at h
    · simp only [Bool.and_eq_true] at h
      obtain ⟨⟨⟨⟨⟨h1, h2⟩, h3⟩, h4⟩, h5⟩, h6⟩ := h
      have ok := blkOk_by h3
      rw [← xo.sc, ← xo.N] at ok
      refine .plain rfl (PE.imp (pe_lc (g := gOf X.K tg) (te := tR X XC WX (ev CF Γ e)) (tt := tX X XC WX RelB (evIf CF Γ ifs)) xo.calm (nd_of xo) (okI i (W := W) xo h1) ok (fun s H C cl fp => pg_of (xo.blk ok.kind s H C cl fp) h4) (fun s H C cl fp => okIf ifs (W := WX) (xo.blk ok.kind s H C cl fp) h5) (fun s H C cl fp => (okE e (W := WX) (xo.blk ok.kind s H C cl fp) h6).1) (set_of h2)) fun σ H Q q => ?_)
      exact lc_wish (fun j hj => by rw [own_sl] at hj; exact hj) (fun j hj => by rw [own_sl]; exact hj) q
    · cases h
  | .dcomp t k e tg i ifs, c, x, X, W, xo, h => by
    unfold chkE at h
    split at h
    · simp only [Bool.and_eq_true] at h
      obtain ⟨⟨⟨⟨⟨⟨h1, h2⟩, h3⟩, h4⟩, h5⟩, h6⟩, h7⟩ := h
      have ok := blkOk_by h3
      rw [← xo.sc, ← xo.N] at ok
      refine .plain rfl (PE.imp (pe_dc (g := gOf X.K tg) (tk := tR X XC WX (ev CF Γ k)) (tv := tR X XC WX (ev CF Γ e)) (tt := tX X XC WX RelB (evIf CF Γ ifs)) xo.calm (nd_of xo) (okI i (W := W) xo h1) ok (fun s H C cl fp => pg_of (xo.blk ok.kind s H C cl fp) h4) (fun s H C cl fp => okIf ifs (W := WX) (xo.blk ok.kind s H C cl fp) h5) (fun s H C cl fp => (okE k (W := WX) (xo.blk ok.kind s H C cl fp) h6).1) (fun s H C cl fp => (okE e (W := WX) (xo.blk ok.kind s H C cl fp) h7).1) (set_of h2)) fun σ H Q q => ?_)
      exact dc_wish (fun j hj => by rw [own_sl] at hj; exact hj) (fun j hj => by rw [own_sl]; exact hj) q
    · cases h
  | .meth0 m o, c, x, X, W, xo, h => by
    unfold chkE at h
    split at h
    · simp only [Bool.and_eq_true, decide_eq_true_eq] at h
      obtain ⟨⟨⟨h1, h2⟩, h3⟩, h4⟩ := h
      subst h1
      exact .plain rfl (x_meth0 (m0_slot m).1 (m0_slot m).2 (okE o (W := W) xo h4).1 (base_of h2) h3)
    · cases h
  | .meth1 m o a, c, x, X, W, xo, h => by
    unfold chkE at h
    split at h
    · simp only [Bool.and_eq_true, decide_eq_true_eq] at h
      obtain ⟨⟨⟨⟨⟨h1, h2⟩, h3⟩, h4⟩, h5⟩, h6⟩ := h
      subst h1
      exact .plain rfl (x_meth1 xo.hu (m1_slot m).1 (m1_slot m).2 (okE o (W := W) xo h5).1 (okE a (W := W) xo h6).1 (base_of h2) h3 (star1 h4))
    · cases h
theorem okEs : ∀ (es : Es) {c : CC} {xs : List Expr} {X : Cx} {W : WT}, XOk X XC CF Γ c → chkEs es c xs = true → OkL X XC W CF Γ xs es
  | .nil, c, xs, X, W, xo, h => by
    unfold chkEs at h
    split at h
    · exact ⟨a_nil, fun ρ G ds G' q => by cases q; rfl, fun x hx => (by cases hx), fun _ => rfl⟩
    · cases h
  | .cons e r, c, xs, X, W, xo, h => by
    unfold chkEs at h
    split at h
    · simp only [Bool.and_eq_true] at h
      obtain ⟨⟨h1, h2⟩, h3⟩ := h
      obtain ⟨a1, a2, a3, a4⟩ := okEs r (W := W) xo h3
      refine ⟨a_cons (okE e (W := W) xo h2).1 a1 (star_of h1), evs_len a2, fun x hx => ?_, fun q => by cases q⟩
      rcases List.mem_cons.mp hx with z | z
      · rw [z]; exact h1
      · exact a3 x z
    · cases h
theorem okKs : ∀ (es : Es) {c : CC} {xs : List Keyword} {X : Cx} {W : WT}, XOk X XC CF Γ c → chkKs es c xs = true → OkK X XC W CF Γ xs es
  | .nil, c, xs, X, W, xo, h => by
    unfold chkKs at h
    split at h
    · exact ⟨k_nil, fun ρ G ds G' q => by cases q; rfl⟩
    · cases h
  | .cons e r, c, xs, X, W, xo, h => by
    unfold chkKs at h
    split at h
    · simp only [Bool.and_eq_true] at h
      obtain ⟨a1, a2⟩ := okKs r (W := W) xo h.2
      exact ⟨k_cons (okE e (W := W) xo h.1).1 a1, evs_len a2⟩
    · cases h
theorem okIf : ∀ (es : Es) {c : CC} {xs : List Expr} {X : Cx} {W : WT}, XOk X XC CF Γ c → chkIf es c xs = true → PTs X xs (tX X XC W RelB (evIf CF Γ es))
  | .nil, c, xs, X, W, xo, h => by
    unfold chkIf at h
    split at h
    · exact pts_nil'
    · cases h
  | .cons e r, c, xs, X, W, xo, h => by
    unfold chkIf at h
    split at h
    · exact pts_of (okE e (W := W) xo h).2.1
    · cases h
theorem okI : ∀ (i : I) {c : CC} {tgE x : Expr} {X : Cx} {W : WT}, XOk X XC CF Γ c → chkI i c tgE x = true → PI X tgE x (tI X XC W (evI CF Γ i))
  | .ex e, c, tgE, x, X, W, xo, h => by
    unfold chkI at h
    exact i_ex (okE e (W := W) xo h).1
  | .rng1 a, c, tgE, x, X, W, xo, h => by
    unfold chkI at h
    split at h
    · simp only [Bool.and_eq_true, decide_eq_true_eq] at h
      obtain ⟨⟨⟨h1, h2⟩, h3⟩, h4⟩ := h
      subst h1
      exact i_rng1 (xo.blt h2 boot_range (by decide) (by decide)) (okE a (W := W) xo h4).1 (star1 h3)
    · cases h
  | .rng2 a b, c, tgE, x, X, W, xo, h => by
    unfold chkI at h
    split at h
    · simp only [Bool.and_eq_true, decide_eq_true_eq] at h
      obtain ⟨⟨⟨⟨⟨h1, h2⟩, h3⟩, h3'⟩, h4⟩, h5⟩ := h
      subst h1
      exact i_rng2 (xo.blt h2 boot_range (by decide) (by decide)) (okE a (W := W) xo h4).1 (okE b (W := W) xo h5).1 (star2 h3 h3') (star1 h3')
    · cases h
  | .enum a, c, tgE, x, X, W, xo, h => by
    unfold chkI at h
    split at h
    · simp only [Bool.and_eq_true, decide_eq_true_eq] at h
      obtain ⟨⟨⟨h1, h2⟩, h3⟩, h4⟩ := h
      subst h1
      exact i_enum (xo.blt h2 boot_enumerate (by decide) (by decide)) (okE a (W := W) xo h4).1 (star1 h3)
    · cases h
  | .zip a b, c, tgE, x, X, W, xo, h => by
    unfold chkI at h
    split at h
    · simp only [Bool.and_eq_true, decide_eq_true_eq] at h
      obtain ⟨⟨⟨⟨⟨h1, h2⟩, h3⟩, h3'⟩, h4⟩, h5⟩ := h
      subst h1
      exact i_zip (xo.blt h2 PyProof.Rows.boot_zip (by decide) (by decide)) (okE a (W := W) xo h4).1 (okE b (W := W) xo h5).1 (star2 h3 h3') (star1 h3')
    · cases h
  | .items a, c, tgE, x, X, W, xo, h => by
    unfold chkI at h
    cases h
end
end
end LK

set_option Elab.async false
set_option linter.all false
set_option autoImplicit false
set_option maxRecDepth 100000
set_option maxHeartbeats 4000000
/-! LkSnd2: what the checker passes does what the language says: statements, defs. -/
namespace LK
open PySem PySem.Spec PyProof.Rows L2

section
variable {XC : XCT} {CF : CallF} {Γ : Str → Option D} {X : Cx} {W : WT} {c : CC}
theorem swp_ok (xo : XOk X XC CF Γ c) {ts vs : List Expr} {k k2 : Nat} {p p2 : Pos} {r : Option (List Str)} (h : swp c.sc ts vs = some r) : swappedStores [.Tuple ts k p] (.Tuple vs k2 p2) X.env = pure r := by
  have hb : X.env.blockKind = .function := by unfold Env.blockKind; rw [xo.sc, xo.kind]; rfl
  have hk : ∀ id, X.env.kindOf id = c.sc.names.lookup id := fun id => by show X.env.scope.names.lookup id = _; rw [xo.sc]
  have hbb : (ScopeKind.function != ScopeKind.function) = false := by decide
  unfold swappedStores
  unfold swp at h
  simp only [hb, hk, hbb, Bool.or_false]
  split at h
  · rename_i h1
    cases h
    exact if_pos h1
  · rename_i h1
    refine Eq.trans (if_neg h1) ?_
    split at h
    · rename_i h2
      cases h
      exact if_pos h2
    · rename_i h2
      refine Eq.trans (if_neg h2) ?_
      dsimp only at h
      split at h
      · rename_i h3
        cases h
        exact if_pos h3
      · rename_i h3
        refine Eq.trans (if_neg h3) ?_
        split at h
        · rename_i h4
          cases h
          exact if_pos h4
        · rename_i h4
          refine Eq.trans (if_neg h4) ?_
          split at h
          · cases h
          · rename_i h5
            cases h
            exact if_neg h5
theorem sst_of {tg : Expr} {v : Expr} (h : ∀ vs k pos, v = .Tuple vs k pos → False) : swappedStores [tg] v X.env = pure none := by
  cases v with
  | Tuple a b c => exact (h a b c rfl).elim
  | _ => cases tg <;> rfl
theorem sst_sub {a b : Expr} {p : Pos} {v : Expr} : swappedStores [.Subscript a b p] v X.env = pure none := by
  cases v <;> rfl
theorem sub_asg {o i : Expr} {pos : Pos} (h : notSlice i = true) (v : Value) : assign (.Subscript o i pos) X.env v = (do
      let ov ← holding [v] (eval o X.env)
      let iv ← holding [v, ov] (eval i X.env)
      standAt pos
      holding [v, ov, iv] (setItem ov iv v)
      release [v, ov, iv] []) := by
  cases i <;> first | rfl | cases h
theorem sw_cell {e : Expr} {y : Str} {py : Pos} {l : Nat} (h : ¬ X.env.scope.names.lookup y = some .local) : swapsWith e (some (.Name y py)) l X.env = pure false := by
  have hk : (X.env.kindOf y == some .local) = false := beq_eq_false_iff_ne.mpr h
  cases e <;> first
    | rfl
    | (unfold swapsWith
       simp only [hk, Bool.and_false, Bool.false_and])
theorem sole_of {e t : Expr} {l : Nat} {env : PySem.Env} (h : notComp e = true) : swapsWithSole [t] e l env = pure false := sw_of h
mutual
theorem okS : ∀ (st : S) {x : Stmt}, XOk X XC CF Γ c → PassesOwn (model X.prog X.w) X.A X.env X.xe → chkS st c x = true → PS X x (tS X XC W (exS CF Γ st))
  | .set i e, x, xo, hp, h => by
    unfold chkS at h
    split at h
    · rw [Bool.and_eq_true, Bool.and_eq_true, Bool.or_eq_true] at h
      obtain ⟨⟨h1, h2⟩, h3⟩ := h
      obtain ⟨l1, l2, l3⟩ := xo.loc h1
      rcases h3 with h3 | h3
      · rw [Bool.or_eq_true] at h3
        rcases h3 with h3 | h3
        · exact s_set (nd_of xo) l1 l2 l3 (okE e xo h2).1 (sw_of h3)
        · exact s_set (nd_of xo) l1 l2 l3 (okE e xo h2).1 (sw_cell (fun z => by
            rw [xo.sc] at z
            unfold CC.lcl at h3
            rw [z] at h3
            cases h3))
      · split at h3
        · split at h3
          · rename_i elt g scope p _ e tg it ifs
            simp only [Bool.and_eq_true, decide_eq_true_eq, Bool.not_eq_true'] at h3
            obtain ⟨⟨k1, k2⟩, k3⟩ := h3
            unfold chkE at h2
            split at h2
            · rename_i elt' tgE iter ifsE scope' p' hx
              cases hx
              simp only [Bool.and_eq_true] at h2
              obtain ⟨⟨⟨⟨⟨g1, g2⟩, g3⟩, g4⟩, g5⟩, g6⟩ := h2
              have ok := blkOk_by g3
              rw [← xo.sc, ← xo.N] at ok
              have kl := k1
              rw [← xo.sc] at kl
              exact s_setLc xo.calm (nd_of xo) l1 kl (sw_true (by rw [xo.sc]; exact xo.kind) kl k2 k3) (okI it (W := W) xo g1) ok (fun j hj => by rw [own_sl] at hj; exact hj) (fun j hj => by rw [own_sl]; exact hj)
                (fun s H C cl fp => pg_of (xo.blk ok.kind s H C cl fp) g4) (fun s H C cl fp => okIf ifs (W := WX) (xo.blk ok.kind s H C cl fp) g5) (fun s H C cl fp => (okE e (W := WX) (xo.blk ok.kind s H C cl fp) g6).1) (set_of g2)
            · cases h2
          · cases h3
        · cases h3
    · cases h
  | .setT js e, x, xo, hp, h => by
    unfold chkS at h
    split at h
    · rw [Bool.and_eq_true, Bool.and_eq_true] at h
      obtain ⟨⟨h1, h2⟩, h3⟩ := h
      have pg := fun (k : Nat) (pos : Pos) => pg_of xo (tg := .many js) (tgE := .Tuple _ k pos) h1
      split at h3
      · rename_i ts _ _ _ _ vs k2 p2
        split at h3
        · rename_i hsw
          exact s_setT (okE e xo h2).1 (pg _ _) (sole_of rfl) (swp_ok xo hsw) rfl
        · rename_i names hsw
          rw [Bool.and_eq_true] at h3
          obtain ⟨h3, h4⟩ := h3
          split at h4
          · rename_i es
            unfold chkPar at h3
            unfold chkE at h2
            dsimp only at h2
            rw [Bool.and_eq_true] at h2
            obtain ⟨a1, a2, a3, a4⟩ := okEs es (W := W) xo h2.2
            split at h3
            · simp only [Bool.and_eq_true, decide_eq_true_eq, CC.lcl] at h3
              obtain ⟨⟨⟨⟨⟨q1, q2⟩, q3⟩, q4⟩, q5⟩, q6⟩ := h3
              subst q2
              exact s_par xo.calm (nd_of xo) (by rw [xo.N]; exact q5) (by rw [xo.N]; exact q6) q1 (by rw [xo.sc]; exact q3) (by rw [xo.sc]; exact q4) a1 (swp_ok xo hsw) (sole_of rfl)
            · simp only [Bool.and_eq_true, decide_eq_true_eq, CC.lcl] at h3
              obtain ⟨⟨⟨⟨⟨⟨⟨⟨⟨q1, q2⟩, q3⟩, q4⟩, q5⟩, q6⟩, q7⟩, q8⟩, q9⟩, q10⟩ := h3
              subst q4
              exact s_par3 xo.calm (nd_of xo) (by rw [xo.N]; exact q8) (by rw [xo.N]; exact q9) (by rw [xo.N]; exact q10) q1 q2 q3 (by rw [xo.sc]; exact q5) (by rw [xo.sc]; exact q6) (by rw [xo.sc]; exact q7) a1 (swp_ok xo hsw) (sole_of rfl)
            · cases h3
          · cases h4
        · cases h3
      · rename_i hnt
        exact s_setT (okE e xo h2).1 (pg _ _) (sole_of h3) (sst_of hnt) rfl
    · cases h
  | .setI o i e, x, xo, hp, h => by
    unfold chkS at h
    split at h
    · simp only [Bool.and_eq_true] at h
      obtain ⟨⟨⟨⟨h1, h2⟩, h3⟩, h4⟩, h5⟩ := h
      exact s_setI xo.hu (okE e xo h3).1 (okE o xo h4).1 (okE i xo h5).1 (sole_of h2) sst_sub (sub_asg h1)
    · cases h
  | .aug i op e, x, xo, hp, h => by
    unfold chkS at h
    split at h
    · simp only [Bool.and_eq_true, Bool.or_eq_true, decide_eq_true_eq] at h
      obtain ⟨⟨⟨h1, h2⟩, h3⟩, h4⟩ := h
      obtain ⟨l1, l2, l3⟩ := xo.loc h3
      subst h1
      exact s_aug (nd_of xo) l1 l2 l3 (by rcases h2 with (h2 | h2) | h2; exact .inl h2; exact .inr (.inl h2); exact .inr (.inr h2)) (okE e xo h4).1
    · cases h
  | .augI _ _ _ _, x, xo, hp, h => by
    unfold chkS at h
    cases h
  | .expr e, x, xo, hp, h => by
    unfold chkS at h
    split at h
    · rw [Bool.and_eq_true] at h
      exact s_expr (okE e xo h.2).1 (sw_of h.1)
    · cases h
  | .ret e, x, xo, hp, h => by
    unfold chkS at h
    split at h
    · exact s_ret (okE e xo h).1
    · cases h
  | .retN, x, xo, hp, h => by
    unfold chkS at h
    split at h
    · exact s_retN
    · cases h
  | .ite t a b, x, xo, hp, h => by
    unfold chkS at h
    split at h
    · simp only [Bool.and_eq_true] at h
      exact s_if (okE t xo h.1.1).2.1 (okSs a xo hp h.1.2) (okSs b xo hp h.2)
    · cases h
  | .whl t b, x, xo, hp, h => by
    unfold chkS at h
    split at h
    · simp only [Bool.and_eq_true] at h
      exact s_whl hp (okE t xo h.1).2.1 (okSs b xo hp h.2)
    · cases h
  | .for_ tg i b, x, xo, hp, h => by
    unfold chkS at h
    split at h
    · simp only [Bool.and_eq_true] at h
      obtain ⟨⟨⟨h1, h2⟩, h3⟩, h4⟩ := h
      exact s_for hp xo.calm (okI i xo h2) (pg_of xo h1) (okSs b xo hp h4) (set_of h3)
    · cases h
  | .brk, x, xo, hp, h => by
    unfold chkS at h
    split at h
    · exact s_brk
    · cases h
  | .cnt, x, xo, hp, h => by
    unfold chkS at h
    split at h
    · exact s_cnt
    · cases h
  | .pass, x, xo, hp, h => by
    unfold chkS at h
    split at h
    · exact s_pass
    · cases h
  | .raise _ _, x, xo, hp, h => by
    unfold chkS at h
    cases h
  | .try_ _ _ _ _, x, xo, hp, h => by
    unfold chkS at h
    cases h
  | .never, x, xo, hp, h => PS.imp ps_never fun D σ H ⟨_, _, _, _, _, z⟩ => z
theorem okSs : ∀ (st : Ss) {x : List Stmt}, XOk X XC CF Γ c → PassesOwn (model X.prog X.w) X.A X.env X.xe → chkSs st c x = true → PSs X x (tS X XC W (exSs CF Γ st))
  | .nil, x, xo, hp, h => by
    unfold chkSs at h
    split at h
    · exact s_nil
    · cases h
  | .cons s r, x, xo, hp, h => by
    unfold chkSs at h
    split at h
    · simp only [Bool.and_eq_true] at h
      exact s_cons (okS s xo hp h.1) (okSs r xo hp h.2)
    · cases h
end
end
end LK

set_option Elab.async false
set_option linter.all false
set_option autoImplicit false
set_option maxRecDepth 100000
set_option maxHeartbeats 4000000
/-! LkTop: all defs of a program, by the depth of calls. -/
namespace LK
open PySem PySem.Spec PyProof.Rows L2

/-! ### behind a call -/
section
variable {P : Program} {w : World} {K : PySem.W.Frag} {ι ι' : List Addr} {G G1 : Hpp} {H H' : Hp}
theorem lowL_all {n : Nat} : ∀ {ds : List D}, D.lowL n ds = true ↔ ∀ d ∈ ds, D.low n d = true
  | [] => by simp [D.lowL]
  | d :: ds => by rw [D.lowL, Bool.and_eq_true, lowL_all]; simp
mutual
theorem RV.low : ∀ {v : V} {d : D}, RV K ι H v d → D.low ι.length d = true
  | _, _, .non => rfl
  | _, _, .bl b => rfl
  | _, _, .int b => rfl
  | _, _, .str b => rfl
  | _, _, .tup h hs => by rw [D.low]; exact RVs.low hs
  | _, _, .ref e => by rw [D.low]; exact decide_eq_true (List.getElem?_eq_some_iff.mp e).1
  | _, _, .frl h hs => by rw [D.low]; exact RVs.low hs
theorem RVs.low : ∀ {vs : List V} {ds : List D}, RVs K ι H vs ds → D.lowL ι.length ds = true
  | _, _, .nil => rfl
  | _, _, .cons h hs => by rw [D.lowL, RV.low h, RVs.low hs]; rfl
end
mutual
theorem RV.down {n : Nat} (p : ∀ i a, i < n → ι'[i]? = some a → ι[i]? = some a) : ∀ {v : V} {d : D}, RV K ι' H v d → D.low n d = true → RV K ι H v d
  | _, _, .non, _ => .non
  | _, _, .bl b, _ => .bl b
  | _, _, .int b, _ => .int b
  | _, _, .str b, _ => .str b
  | _, _, .tup h hs, l => by rw [D.low] at l; exact .tup h (RVs.down p hs l)
  | _, _, .ref e, l => by rw [D.low] at l; exact .ref (p _ _ (of_decide_eq_true l) e)
  | _, _, .frl h hs, l => by rw [D.low] at l; exact .frl h (RVs.down p hs l)
theorem RVs.down {n : Nat} (p : ∀ i a, i < n → ι'[i]? = some a → ι[i]? = some a) : ∀ {vs : List V} {ds : List D}, RVs K ι' H vs ds → D.lowL n ds = true → RVs K ι H vs ds
  | _, _, .nil, _ => .nil
  | _, _, .cons h hs, l => by rw [D.lowL, Bool.and_eq_true] at l; exact .cons (RV.down p h l.1) (RVs.down p hs l.2)
end
theorem all_mem {α β : Type} {F : α → β → Prop} {p : β → Prop} : ∀ {xs : List α} {ys : List β}, Paired F xs ys → (∀ y ∈ ys, p y) → Paired (fun x y => F x y ∧ p y) xs ys
  | _, _, .nil, _ => .nil
  | _, _, .cons h hs, q => .cons ⟨h, q _ (List.mem_cons_self ..)⟩ (all_mem hs fun y hy => q y (List.mem_cons_of_mem _ hy))
theorem CellOk.down {n : Nat} (p : ∀ i a, i < n → ι'[i]? = some a → ι[i]? = some a) {a : Addr} {c : Cell} (h : CellOk P w K ι' H a c) (l : c.low n = true) : CellOk P w K ι H a c := by
  cases c with
  | lst ds => obtain ⟨xs, h1, h2⟩ := h; exact ⟨xs, h1, h2.down p l⟩
  | dct t kvs =>
    simp only [Cell.low, List.all_eq_true, Bool.and_eq_true] at l
    cases t with
    | false =>
      obtain ⟨ks, h1, h2⟩ := h
      exact ⟨ks, h1, L2.Paired.mapP (all_mem h2 l) fun _ _ q => ⟨q.1.1.down p q.2.1, q.1.2.down p q.2.2⟩⟩
    | true =>
      obtain ⟨ks, h1, h3, h2⟩ := h
      exact ⟨ks, h1, h3, L2.Paired.mapP (all_mem h2 l) fun _ _ q => ⟨q.1.1, q.1.2.1, q.1.2.2.1, q.1.2.2.2.1.down p q.2.1, let ⟨y, y1, y2⟩ := q.1.2.2.2.2; ⟨y, y1, y2.down p q.2.2⟩⟩⟩
  | set ds => exact h.elim
theorem pair_low {F : V → D → Prop} : True := trivial
theorem CellOk.low {a : Addr} {c : Cell} (h : CellOk P w K ι H a c) : c.low ι.length = true := by
  cases c with
  | lst ds => obtain ⟨xs, h1, h2⟩ := h; exact h2.low
  | dct t kvs =>
    have gen : ∀ {α : Type} {F : α → D × D → Prop} {ks : List α} {kvs : List (D × D)}, Paired F ks kvs → (∀ x p, F x p → D.low ι.length p.1 = true ∧ D.low ι.length p.2 = true) → (kvs.all fun p => D.low ι.length p.1 && D.low ι.length p.2) = true := by
      intro α F ks kvs hp hF
      induction hp with
      | nil => rfl
      | cons h hs ih => rw [List.all_cons, ih, (hF _ _ h).1, (hF _ _ h).2]; rfl
    cases t with
    | false => obtain ⟨ks, h1, h2⟩ := h; exact gen h2 fun x p q => ⟨q.1.low, q.2.low⟩
    | true => obtain ⟨ks, h1, h3, h2⟩ := h; exact gen h2 fun x p q => ⟨q.2.2.2.1.low, let ⟨y, y1, y2⟩ := q.2.2.2.2; y2.low⟩
  | set ds => exact h.elim
theorem old_low (hr : HR P w K ι G H) (ho : oldOk G G1 = true) {n : Nat} {c : Cell} (hn : n < G.length) (e : G1[n]? = some c) : c.low ι.length = true := by
  unfold oldOk at ho
  rw [List.all_eq_true] at ho
  have q := ho n (List.mem_range.mpr hn)
  rw [e, Bool.or_eq_true, decide_eq_true_eq] at q
  rcases q with q | q
  · obtain ⟨a, _, hc⟩ := hr.addr q.symm
    exact hc.low
  · rw [hr.len]; exact q
theorem pre_down (p : ι <+: ι') : ∀ i a, i < ι.length → ι'[i]? = some a → ι[i]? = some a := fun i a hi e => by
  obtain ⟨t, rfl⟩ := p
  rw [List.getElem?_append_left hi] at e
  exact e
theorem gc_ok (hr : HR P w K ι G H) (hr' : HR P w K ι' G1 H') (f : Fr2 ι H ι' H') {x : V} {v v2 : D} {G2 : Hpp} (hv : RV K ι' H' x v) (e : gc G v G1 = .ok v2 G2) : ∃ ι2, Fr2 ι H ι2 H' ∧ HR P w K ι2 G2 H' ∧ RV K ι2 H' x v2 := by
  have pd := pre_down f.pre
  unfold gc at e
  split at e
  · rename_i ho
    obtain ⟨ho, hlen⟩ := ho
    have base : HR P w K ι (G1.take G.length) H' := by
      refine ⟨by rw [List.length_take, hr.len]; omega, hr.nd, fun n c a e1 e2 => ?_⟩
      have hn : n < G.length := by
        have := (List.getElem?_eq_some_iff.mp e1).1
        rw [List.length_take] at this
        omega
      rw [List.getElem?_take_of_lt hn] at e1
      exact (hr'.cell n c a e1 (pre_get f.pre e2)).down pd (old_low hr ho hn e1)
    have f0 : Fr2 ι H ι H' := ⟨List.prefix_refl _, fun n a h e => (by rw [List.getElem?_eq_none h] at e; cases e), f.ext⟩
    split at e
    · rename_i hl
      cases e
      exact ⟨ι, f0, base, hv.down pd (by rw [hr.len]; exact hl)⟩
    · rename_i hl
      split at e
      · rename_i m
        split at e
        · rename_i c hm
          split at e
          · rename_i hc
            cases e
            cases hv with
            | @ref a _ ha =>
              have hge : ι.length ≤ m := by
                rw [D.low] at hl
                have : ¬ m < G.length := fun z => hl (decide_eq_true z)
                rw [hr.len]; omega
              have na : a ∉ ι := fun hin => by
                obtain ⟨j, hj⟩ := List.mem_iff_getElem?.mp hin
                have hj' := pre_get f.pre hj
                have hjl := (List.getElem?_eq_some_iff.mp hj).1
                have : j = m := (List.getElem?_inj (List.getElem?_eq_some_iff.mp hj').1 hr'.nd).mp (by rw [hj', ha])
                omega
              have cok := (hr'.cell m c a hm ha).down pd (by rw [hr.len]; exact hc)
              refine ⟨ι ++ [a], ⟨List.prefix_append _ _, fun n b hn eb => ?_, f.ext⟩, base.push na (cok.up a), .ref ?_⟩
              · rw [List.getElem?_append_right hn] at eb
                have h0 : n - ι.length = 0 := by
                  cases q : n - ι.length with
                  | zero => rfl
                  | succ k => rw [q] at eb; simp at eb
                rw [h0] at eb
                simp at eb
                subst eb
                exact f.fresh m a hge ha
              · rw [← hr.len]; simp
          · cases e
            exact ⟨ι', f, hr', hv⟩
        · cases e
      · cases e
        exact ⟨ι', f, hr', hv⟩
  · cases e
    exact ⟨ι', f, hr', hv⟩
end
theorem gc_kind {G G1 : Hpp} {v : D} : ∃ r, gc G v G1 = r ∧ (r = .bad ∨ ∃ v2 G2, r = .ok v2 G2) := by
  refine ⟨_, rfl, ?_⟩
  unfold gc
  split
  · split
    · exact .inr ⟨_, _, rfl⟩
    · split
      · split
        · split
          · exact .inr ⟨_, _, rfl⟩
          · exact .inr ⟨_, _, rfl⟩
        · exact .inl rfl
      · exact .inr ⟨_, _, rfl⟩
  · exact .inr ⟨_, _, rfl⟩
/-- no exceptions -/
def XC0 : XCT := fun _ _ _ _ _ _ => False

/-! ### a def of the text -/
structure FD where
  nm : Str
  st : Stmt
  d : FnDef
  N : List Str
  ps : List Str
def scB (N P : List Str) (sc : Scope) : Bool :=
  decide (sc.kind = .function) && !sc.isCoroutine && !sc.isGenerator && decide N.Nodup && decide (N.take P.length = P) && (P.all fun x => decide (sc.names.lookup x = some .local) || decide (sc.names.lookup x = some .cell)) && (sc.names.all fun y => decide (y.2 ≠ .free))
theorem sc_of {N P : List Str} {sc : Scope} (h : scB N P sc = true) : FnScope N P sc := by
  unfold scB at h
  simp only [Bool.and_eq_true, decide_eq_true_eq, Bool.not_eq_true', List.all_eq_true, Bool.or_eq_true] at h
  obtain ⟨⟨⟨⟨⟨⟨h1, h2⟩, h3⟩, h4⟩, h5⟩, h6⟩, h7⟩ := h
  exact ⟨h1, h2, h3, h4, h5, h6, h7⟩
def FD.cc (f : FD) (shp : List Sh) (gl bl : List Str) : CC := ⟨f.N, defScope f.st, fun _ => true, shp, gl, bl⟩
def FD.chk (f : FD) (shp : List Sh) (gl bl : List Str) : Bool :=
  scB f.N f.ps (defScope f.st) && decide (f.d.np = f.ps.length) && decide (f.d.ns = f.N.length) && decide (f.ps.length ≤ f.N.length) && chkSs f.d.body (f.cc shp gl bl) (defBody f.st)
/-- it stands behind the top -/
def FD.At (K : PySem.W.Frag) (mg : Str → Option Value) (f : FD) : Prop := ∃ (fp : Addr) (fd : FuncData), Fun K f.nm f.nm f.st fp fd ∧ mg f.nm = some (.ref fp)
/-- how a call of this shape binds -/
def Sh.B (f : FD) (sh : Sh) : Prop := sh.dd = [] ∧ sh.n + sh.ks.length = f.ps.length ∧ ∀ (kV doc pm : Value) (an : Option Addr) (cdv ct : Value) (us ws : List Value), us.length = sh.n → ws.length = sh.ks.length →
  bindArgs (PySem.W.fnOf f.nm f.nm (defArgs f.st) (defBody f.st) (defScope f.st) .none kV doc pm an cdv ct) ⟨us, sh.ks.zip ws⟩ = pure (f.ps.zip (us ++ ws))
section
variable {P : Program} {w : World} {K : PySem.W.Frag} {mg : Str → Option Value} {base : Heap} {T : Tab} {Γ : Str → Option D} {shp : List Sh} {gl bl : List Str}
theorem fn_ok {f : FD} (hT : T f.nm = some f.d) (hc : f.chk shp gl bl = true) {fp : Addr} {fd : FuncData} (F : Fun K f.nm f.nm f.st fp fd) (hgl : GlOk K mg Γ gl) (hbl : ∀ b ∈ bl, mg b = none) {d : Nat} (ih : FnsOk P w K mg base XC0 (callF T Γ d) d shp) :
    FnOk P w K mg base CX0 (d + 1) fp fd f.ps (spL P w K XC0 (callF T Γ (d + 1)) f.nm f.ps.length) := by
  unfold FD.chk at hc
  simp only [Bool.and_eq_true, decide_eq_true_eq] at hc
  obtain ⟨⟨⟨⟨h1, h2⟩, h3⟩, h4⟩, h5⟩ := hc
  have S := sc_of h1
  refine F.ok S (fun vs H Q E h => ?_) (fun cdv A outer s H vs Q E hr h => ?_)
  · obtain ⟨_, _, _, _, _, hl, _⟩ := h
    exact hl
  · obtain ⟨ι, G, ds, hR, rv, hl, hp⟩ := h
    refine ⟨tS _ XC0 E (exSs (callF T Γ d) Γ f.d.body), okSs f.d.body (c := f.cc shp gl bl) ⟨rfl, S.kind, rfl, S.nd, rfl, fun _ _ => rfl, ⟨d, hr, ih⟩, hgl, hbl⟩ PassesOwn.never h5, ?_⟩
    have hdl : ds.length = f.d.np := by rw [← rv.length, hl, h2]
    refine ⟨ι, ds.map some ++ List.replicate (f.d.ns - f.d.np) none, G, hR, ⟨?_, fun i e he => ?_⟩, ?_⟩
    · unfold L2.start
      rw [List.length_append, List.length_append, List.length_map, List.length_map, List.length_replicate, List.length_replicate, rv.length, hdl, h3]
    · have hi : i < ds.length := by
        by_cases hi : i < ds.length
        · exact hi
        · rw [List.getElem?_append_right (by rw [List.length_map]; omega), List.getElem?_replicate] at he
          split at he <;> cases he
      rw [List.getElem?_append_left (by rw [List.length_map]; exact hi), List.getElem?_map] at he
      cases e1 : ds[i]? with
      | none => rw [e1] at he; cases he
      | some d1 =>
        rw [e1] at he
        cases he
        obtain ⟨v, ev, r⟩ := rv.get e1
        refine ⟨v, ?_, r⟩
        unfold L2.start
        rw [List.getElem?_append_left (by rw [List.length_map, rv.length]; exact hi), List.getElem?_map, ev]
        rfl
    · simp only [callF, hT] at hp
      rw [if_pos hdl] at hp
      cases e : exSs (callF T Γ d) Γ f.d.body (ds.map some ++ List.replicate (f.d.ns - f.d.np) none) G with
      | nx ρ1 G1 =>
        rw [e] at hp
        dsimp only at hp
        intro ι1 H1 σ1 f1 hr1 er1
        obtain ⟨r, eg, hk⟩ := gc_kind (G := G) (G1 := G1) (v := .non)
        rw [eg] at hp
        rcases hk with rfl | ⟨v2, G2, rfl⟩
        · exact hp.elim
        · obtain ⟨ι2, f2, hr2, rv2⟩ := gc_ok hR hr1 f1 (x := .non) .non eg
          exact hp ι2 H1 .non f2 hr2 rv2
      | rt v G1 =>
        rw [e] at hp
        dsimp only at hp
        intro ι1 H1 x f1 hr1 rx
        obtain ⟨r, eg, hk⟩ := gc_kind (G := G) (G1 := G1) (v := v)
        rw [eg] at hp
        rcases hk with rfl | ⟨v2, G2, rfl⟩
        · exact hp.elim
        · obtain ⟨ι2, f2, hr2, rv2⟩ := gc_ok hR hr1 f1 rx eg
          exact hp ι2 H1 x f2 hr2 rv2
      | ex cl v ρ1 G1 => exact fun _ _ _ _ _ _ z => z.elim
      | bk ρ1 G1 => rw [e] at hp; exact hp.elim
      | ct ρ1 G1 => rw [e] at hp; exact hp.elim
      | bad => rw [e] at hp; exact hp.elim
/-- all defs of the program -/
structure AllOk (K : PySem.W.Frag) (mg : Str → Option Value) (T : Tab) (Γ : Str → Option D) (L : List FD) (shp : List Sh) (gl bl : List Str) : Prop where
  tab : ∀ f ∈ L, T f.nm = some f.d
  chk : ∀ f ∈ L, f.chk shp gl bl = true
  at_ : ∀ f ∈ L, f.At K mg
  sh : ∀ sh ∈ shp, ∃ f ∈ L, f.nm = sh.f ∧ sh.B f
  gl : GlOk K mg Γ gl
  bl : ∀ b ∈ bl, mg b = none
theorem AllOk.fns {L : List FD} (a : AllOk K mg T Γ L shp gl bl) : ∀ d, FnsOk P w K mg base XC0 (callF T Γ d) d shp
  | 0 => fun sh hs => by
    obtain ⟨f, hf, en, hd, hl, hB⟩ := a.sh sh hs
    obtain ⟨fp, fd, F, hm⟩ := a.at_ f hf
    refine ⟨fp, fd, f.ps, ⟨fun vs H Q E h => ?_, fun A outer s H args us vs Q E hr e0 hb hv h => ?_⟩, en ▸ hm, F.kp, ⟨⟨[], [], .nil, fun _ _ => (by rw [hd]; exact .nil), fun s us ws _ h1 h2 => ?_⟩, by rw [hd]; exact hl⟩⟩
    · obtain ⟨_, _, _, _, _, hl, _⟩ := h
      exact hl
    · obtain ⟨_, _, _, _, _, _, hp⟩ := h
      exact hp.elim
    · obtain ⟨oc, od, kV, doc, pm, an, cdv, ct, osl, rfl, lk, hcd⟩ := F.ex
      rw [List.append_nil]
      exact .of_eq (hB kV doc pm an cdv ct us ws h1 h2)
  | d + 1 => fun sh hs => by
    obtain ⟨f, hf, en, hd, hl, hB⟩ := a.sh sh hs
    obtain ⟨fp, fd, F, hm⟩ := a.at_ f hf
    have q := fn_ok (P := P) (w := w) (base := base) (a.tab f hf) (a.chk f hf) F a.gl a.bl (AllOk.fns a d)
    refine ⟨fp, fd, f.ps, en ▸ q, en ▸ hm, F.kp, ⟨⟨[], [], .nil, fun _ _ => (by rw [hd]; exact .nil), fun s us ws _ h1 h2 => ?_⟩, by rw [hd]; exact hl⟩⟩
    obtain ⟨oc, od, kV, doc, pm, an, cdv, ct, osl, rfl, lk, hcd⟩ := F.ex
    rw [List.append_nil]
    exact .of_eq (hB kV doc pm an cdv ct us ws h1 h2)
end
/-! ### the head -/
theorem frl_ints {K : PySem.W.Frag} {ι : List Addr} {H : Hp} : ∀ ns : List Int, RVs K ι H (ns.map V.int) (ns.map D.int)
  | [] => .nil
  | n :: ns => .cons (.int n) (frl_ints ns)
theorem law_sp {P : Program} {w : World} {K : PySem.W.Frag} {T : Tab} {Γ : Str → Option D} {k : Nat} {f : Str} {H : Hp} {a : Addr} {ns : List Int} {G' : Hpp} (hO : Only H) (hS : SqL K H a (ns.map V.int)) (e : callF T Γ k f [.frl (ns.map .int)] [] = .ok (.bl true) G') :
    spL P w K XC0 (callF T Γ k) f 1 [.ref a] H (fun v _ => v = .bl true) fun _ _ _ => False := by
  refine ⟨[], [], [.frl (ns.map .int)], ⟨rfl, List.nodup_nil, fun n c x h => by simp at h⟩, .cons (.frl ?_ (frl_ints ns)) .nil, rfl, ?_⟩
  · rcases hS with (h | h) | h
    · rcases hO a with q | ⟨o, xs, q⟩
      · rw [h] at q; cases q
      · rw [h] at q; cases q
    · exact .inl h
    · exact .inr h
  · rw [e]
    intro ι' H' v _ _ q
    have q : RV K ι' H' v (.bl true) := q
    cases q
    rfl
/-- the promise of the law's own def -/
theorem law_ok {P : Program} {w : World} {K : PySem.W.Frag} {mg : Str → Option Value} {T : Tab} {Γ : Str → Option D} {L : List FD} {shp : List Sh} {gl bl : List Str} {f : FD} {fa : Addr} {k : Nat} (a : AllOk K mg T Γ L shp gl bl) (hf : f ∈ L) {x : Str} (hps : f.ps = [x]) (hmg : mg f.nm = some (.ref fa))
    (hb : ∀ (kV doc pm : Value) (an : Option Addr) (cdv ct : Value) (v : Value), bindArgs (PySem.W.fnOf f.nm f.nm (defArgs f.st) (defBody f.st) (defScope f.st) .none kV doc pm an cdv ct) ⟨[v], []⟩ = pure [(x, v)]) :
    ∃ fd : FuncData, (∀ (s : Shared) (v : Value), BindsTo s fd ⟨[v], []⟩ [(x, v)]) ∧ ∀ base : Heap, K.In base → base.Ns mainGlobals mg → FnOk P w K mg base CX0 (k + 1) fa fd [x] (spL P w K XC0 (callF T Γ (k + 1)) f.nm 1) := by
  obtain ⟨fp, fd, F, hm⟩ := a.at_ f hf
  have e : fp = fa := by
    rw [hm] at hmg
    cases hmg
    rfl
  subst e
  refine ⟨fd, fun s v => ?_, fun base _ _ => ?_⟩
  · obtain ⟨oc, od, kV, doc, pm, an, cdv, ct, osl, rfl, lk, hcd⟩ := F.ex
    exact .of_eq (hb kV doc pm an cdv ct v)
  · have q := fn_ok (P := P) (w := w) (base := base) (a.tab f hf) (a.chk f hf) F a.gl a.bl (a.fns k)
    rw [hps] at q
    exact q
end LK
namespace LK
open PySem PySem.Spec PyProof.Rows L2
theorem all_nil {α : Type} {p : α → Prop} : ∀ x ∈ ([] : List α), p x := fun _ h => nomatch h
theorem all_cons {α : Type} {p : α → Prop} {a : α} {r : List α} (h : p a) (hr : ∀ x ∈ r, p x) : ∀ x ∈ a :: r, p x := fun x hx => by
  rcases List.mem_cons.mp hx with z | z
  · rw [z]; exact h
  · exact hr x z
def tabOf (L : List FD) : Tab := fun x => (L.find? fun f => decide (f.nm = x)).map (·.d)
theorem tab_of : ∀ {L : List FD}, (L.map (·.nm)).Nodup → ∀ f ∈ L, tabOf L f.nm = some f.d
  | [], _, _, h => nomatch h
  | g :: L, nd, f, h => by
    rw [List.map_cons, List.nodup_cons] at nd
    unfold tabOf
    rcases List.mem_cons.mp h with z | z
    · subst z
      simp
    · have ne : ¬ g.nm = f.nm := fun e => nd.1 (e ▸ List.mem_map.mpr ⟨f, z, rfl⟩)
      rw [List.find?_cons]
      simp only [ne, decide_false]
      exact tab_of nd.2 f z
theorem at_mk {K : PySem.W.Frag} {h : Heap} {mg : Str → Option Value} (KX : K.In h) (G : h.Ns mainGlobals mg) {nm : Str} {st : Stmt} {d : FnDef} {N ps : List Str} {fp : Addr} {oc : Value} {od an : Option Addr} {osl : Array (Option Value)} {kV doc pm cdv ct : Value}
    (a : PySem.W.nsIn K mainGlobals nm = some (some (.ref fp))) (l : K.lookup fp = some ⟨oc, od, .func (PySem.W.fnOf nm nm (defArgs st) (defBody st) (defScope st) .none kV doc pm an cdv ct), osl⟩)
    (c : PySem.W.codeIn K cdv nm = true) (k : PySem.W.keepIn K (.ref fp) = true) : FD.At K mg ⟨nm, st, d, N, ps⟩ :=
  ⟨fp, _, fun_mk l c k, PySem.W.mg_of KX G a⟩
theorem gl_mk {K : PySem.W.Frag} {h : Heap} {mg : Str → Option Value} {Γ : Str → Option D} (KX : K.In h) (G : h.Ns mainGlobals mg) {nm : Str} {i : Int} {t : Tok} (e : Γ nm = some (.int i)) (a : PySem.W.nsIn K mainGlobals nm = some (some (.int i t))) :
    ∃ (d : D) (u : Value) (v : V), Γ nm = some d ∧ mg nm = some u ∧ L2.RelV v u ∧ ∀ ι H, RV K ι H v d :=
  ⟨.int i, .int i t, .int i, e, PySem.W.mg_of KX G a, ⟨t, rfl⟩, fun _ _ => .int i⟩
end LK

set_option Elab.async false
set_option linter.all false
set_option autoImplicit false
set_option maxRecDepth 100000
set_option maxHeartbeats 1000000
/-! LkWp: what an evaluation comes to; rules for loops, comprehensions, calls. -/
namespace LK
open PySem

def Res.wp {α : Type} (r : Res α) (Q : α → Hpp → Prop) : Prop := match r with
  | .ok a G => Q a G
  | _ => False
def Fl.wp (r : Fl) (nx bk ct : Env → Hpp → Prop) (rt : D → Hpp → Prop) : Prop := match r with
  | .nx ρ G => nx ρ G
  | .bk ρ G => bk ρ G
  | .ct ρ G => ct ρ G
  | .rt d G => rt d G
  | _ => False
def Bif (x : R) (A B : Prop) : Prop := match x with
  | .val (.bl t) => if t = true then A else B
  | _ => False
section
variable {α β : Type} {Q Q' : α → Hpp → Prop} {a : α} {G : Hpp} {r : Res α}
@[simp] theorem wp_ok : (Res.ok a G).wp Q = Q a G := rfl
@[simp] theorem wp_bad : (Res.bad : Res α).wp Q = False := rfl
@[simp] theorem wp_exc {c : Str} {d : D} : (Res.ex c d G : Res α).wp Q = False := rfl
@[simp] theorem wp_bind {f : α → Hpp → Res β} {Q : β → Hpp → Prop} : (r.bind f).wp Q = r.wp fun a G => (f a G).wp Q := by cases r <;> rfl
@[simp] theorem wp_okV {d : D} {Q : R → Hpp → Prop} : (okV d G).wp Q = Q (.val d) G := rfl
theorem wp_imp (h : r.wp Q) (q : ∀ a G, Q a G → Q' a G) : r.wp Q' := by
  cases r with
  | ok a G => exact q a G h
  | ex _ _ _ => exact h
  | bad => exact h
theorem wp_eq (h : r.wp Q) : ∃ a G, r = .ok a G ∧ Q a G := by
  cases r with
  | ok a G => exact ⟨a, G, rfl, h⟩
  | ex _ _ _ => exact h.elim
  | bad => exact h.elim
theorem eq_wp {b : α} {G' : Hpp} (h : r = .ok b G') : r.wp Q = Q b G' := by rw [h]; rfl
@[simp] theorem wp_ite {p : Prop} [Decidable p] {r q : Res α} : (if p then r else q).wp Q = if p then r.wp Q else q.wp Q := by split <;> rfl
theorem wp_guard {p : Prop} [Decidable p] {r : Res α} : (if p then r else .bad).wp Q = (p ∧ r.wp Q) := by
  split <;> simp [*]
@[simp] theorem wp_noEx : (noEx r).wp Q = r.wp Q := by cases r <;> rfl
@[simp] theorem bif_val {t : Bool} {A B : Prop} : Bif (.val (.bl t)) A B = if t = true then A else B := rfl
@[simp] theorem wp_optB {o : Option Bool} {Q : R → Hpp → Prop} : (optB o G).wp Q = match o with
  | some b => Q (.val (.bl b)) G
  | none => False := by cases o <;> rfl
end
section
variable {nx bk ct : Env → Hpp → Prop} {rt : D → Hpp → Prop} {ρ : Env} {G : Hpp}
@[simp] theorem f_nx : (Fl.nx ρ G).wp nx bk ct rt = nx ρ G := rfl
@[simp] theorem f_bk : (Fl.bk ρ G).wp nx bk ct rt = bk ρ G := rfl
@[simp] theorem f_ct : (Fl.ct ρ G).wp nx bk ct rt = ct ρ G := rfl
@[simp] theorem f_rt {d : D} : (Fl.rt d G).wp nx bk ct rt = rt d G := rfl
@[simp] theorem f_bad : Fl.bad.wp nx bk ct rt = False := rfl
@[simp] theorem f_res {α : Type} {r : Res α} {f : α → Hpp → Fl} : (resF r ρ f).wp nx bk ct rt = r.wp fun a G => (f a G).wp nx bk ct rt := by cases r <;> rfl
@[simp] theorem f_ite {p : Prop} [Decidable p] {r q : Fl} : (if p then r else q).wp nx bk ct rt = if p then r.wp nx bk ct rt else q.wp nx bk ct rt := by split <;> rfl
theorem f_imp {r : Fl} {nx' bk' ct' : Env → Hpp → Prop} {rt' : D → Hpp → Prop} (h : r.wp nx bk ct rt) (h1 : ∀ ρ G, nx ρ G → nx' ρ G) (h2 : ∀ ρ G, bk ρ G → bk' ρ G) (h3 : ∀ ρ G, ct ρ G → ct' ρ G) (h4 : ∀ d G, rt d G → rt' d G) : r.wp nx' bk' ct' rt' := by
  cases r with
  | nx ρ G => exact h1 _ _ h
  | bk ρ G => exact h2 _ _ h
  | ct ρ G => exact h3 _ _ h
  | rt d G => exact h4 _ _ h
  | ex _ _ _ _ => exact h
  | bad => exact h
end
section
variable {C : CallF} {Γ : Str → Option D} {nx bk ct : Env → Hpp → Prop} {rt : D → Hpp → Prop} {ρ : Env} {G : Hpp} {Q : R → Hpp → Prop}
@[simp] theorem f_nil : (exSs C Γ .nil ρ G).wp nx bk ct rt = nx ρ G := rfl
@[simp] theorem f_cons {s : S} {r : Ss} : (exSs C Γ (.cons s r) ρ G).wp nx bk ct rt = (exS C Γ s ρ G).wp (fun ρ G => (exSs C Γ r ρ G).wp nx bk ct rt) bk ct rt := by
  rw [exSs]
  cases exS C Γ s ρ G <;> rfl
@[simp] theorem f_if {c : E} {a b : Ss} : (exS C Γ (.ite c a b) ρ G).wp nx bk ct rt = (ev C Γ c ρ G).wp fun x G1 => Bif x ((exSs C Γ a ρ G1).wp nx bk ct rt) ((exSs C Γ b ρ G1).wp nx bk ct rt) := by
  rw [exS, f_res]
  congr 1
  funext x G1
  unfold Bif
  cases x with
  | val d => cases d with
    | bl t => cases t <;> rfl
    | _ => rfl
  | _ => rfl
@[simp] theorem w_and' {a b : E} : (ev C Γ (.and a b) ρ G).wp Q = (ev C Γ a ρ G).wp fun x G1 => Bif x ((ev C Γ b ρ G1).wp Q) (Q (.val (.bl false)) G1) := by
  rw [ev, wp_bind]
  congr 1
  funext x G1
  unfold Bif
  cases x with
  | val d => cases d with
    | bl t => cases t <;> rfl
    | _ => rfl
  | _ => rfl
@[simp] theorem w_or' {a b : E} : (ev C Γ (.or a b) ρ G).wp Q = (ev C Γ a ρ G).wp fun x G1 => Bif x (Q (.val (.bl true)) G1) ((ev C Γ b ρ G1).wp Q) := by
  rw [ev, wp_bind]
  congr 1
  funext x G1
  unfold Bif
  cases x with
  | val d => cases d with
    | bl t => cases t <;> rfl
    | _ => rfl
  | _ => rfl
@[simp] theorem w_not' {a : E} : (ev C Γ (.not a) ρ G).wp Q = (ev C Γ a ρ G).wp fun x G1 => Bif x (Q (.val (.bl false)) G1) (Q (.val (.bl true)) G1) := by
  rw [ev, wp_bind]
  congr 1
  funext x G1
  unfold Bif
  cases x with
  | val d => cases d with
    | bl t => cases t <;> rfl
    | _ => rfl
  | _ => rfl
@[simp] theorem w_ite' {c a b : E} : (ev C Γ (.ite c a b) ρ G).wp Q = (ev C Γ c ρ G).wp fun x G1 => Bif x ((ev C Γ a ρ G1).wp Q) ((ev C Γ b ρ G1).wp Q) := by
  rw [ev, wp_bind]
  congr 1
  funext x G1
  unfold Bif
  cases x with
  | val d => cases d with
    | bl t => cases t <;> rfl
    | _ => rfl
  | _ => rfl
@[simp] theorem w_if' {e : E} {r : Es} {Q : Bool → Hpp → Prop} : (evIf C Γ (.cons e r) ρ G).wp Q = (ev C Γ e ρ G).wp fun x G1 => Bif x ((evIf C Γ r ρ G1).wp Q) (Q false G1) := by
  rw [evIf, wp_bind]
  congr 1
  funext x G1
  unfold Bif
  cases x with
  | val d => cases d with
    | bl t => cases t <;> rfl
    | _ => rfl
  | _ => rfl
@[simp] theorem w_if0 {Q : Bool → Hpp → Prop} : (evIf C Γ .nil ρ G).wp Q = Q true G := rfl
@[simp] theorem w_comp {e : E} {tg : Tg} {i : I} {ifs : Es} : (ev C Γ (.comp e tg i ifs) ρ G).wp Q = (evI C Γ i ρ G).wp fun w G1 => (compF (compV tg (fun ρ G => evIf C Γ ifs ρ G) (fun ρ G => ev C Γ e ρ G) ρ) w (w.size G1 + 1) 0 [] G1).wp fun ds G2 => Q (.newL ds) G2 := by
  rw [ev, wp_bind]
  simp only [wp_bind, wp_ok]
@[simp] theorem w_dcomp {t : Bool} {k e : E} {tg : Tg} {i : I} {ifs : Es} : (ev C Γ (.dcomp t k e tg i ifs) ρ G).wp Q = (evI C Γ i ρ G).wp fun w G1 => (dcompF (dcompV tg (fun ρ G => evIf C Γ ifs ρ G) (fun ρ G => ev C Γ k ρ G) (fun ρ G => ev C Γ e ρ G) ρ) w (w.size G1 + 1) 0 [] G1).wp fun ds G2 => Q (.newD false ds) G2 := by
  rw [ev, wp_bind]
  simp only [wp_bind, wp_ok]
@[simp] theorem f_for {tg : Tg} {i : I} {b : Ss} : (exS C Γ (.for_ tg i b) ρ G).wp nx bk ct rt = (evI C Γ i ρ G).wp fun w G1 => (loopF (fun d ρ1 G2 => match bindTg tg d ρ1 with
    | some ρ2 => exSs C Γ b ρ2 G2
    | none => .bad) w (w.size G1 + 1) 0 ρ G1).wp nx bk ct rt := by
  rw [exS, f_res]
  try rfl
@[simp] theorem w_int {i : Int} : (ev C Γ (.int i) ρ G).wp Q = Q (.val (.int i)) G := rfl
@[simp] theorem w_bl {i : Bool} : (ev C Γ (.bl i) ρ G).wp Q = Q (.val (.bl i)) G := rfl
@[simp] theorem w_non : (ev C Γ .non ρ G).wp Q = Q (.val .non) G := rfl
@[simp] theorem w_str {i : Str} : (ev C Γ (.str i) ρ G).wp Q = Q (.val (.str i)) G := rfl
@[simp] theorem w_var {i : Nat} : (ev C Γ (.var i) ρ G).wp Q = match ρ[i]? with
    | some (some d) => Q (.val d) G
    | _ => False := by
  rw [ev]
  cases ρ[i]? with
  | none => rfl
  | some o => cases o <;> rfl
theorem w_glob {x : Str} {d : D} (h : Γ x = some d) : (ev C Γ (.glob x) ρ G).wp Q = Q (.val d) G := by
  rw [ev, h]
  rfl
@[simp] theorem w_tup {es : Es} : (ev C Γ (.tup es) ρ G).wp Q = (evs C Γ es ρ G).wp fun ds G1 => Q (.val (.tup ds)) G1 := by rw [ev, wp_bind]; rfl
@[simp] theorem w_lst {es : Es} : (ev C Γ (.lst es) ρ G).wp Q = (evs C Γ es ρ G).wp fun ds G1 => Q (.newL ds) G1 := by rw [ev, wp_bind]; rfl
@[simp] theorem w_dnew {t : Bool} : (ev C Γ (.dnew t) ρ G).wp Q = Q (.newD t []) G := rfl
@[simp] theorem w_bin {op : Bop} {a b : E} : (ev C Γ (.bin op a b) ρ G).wp Q = (ev C Γ a ρ G).wp fun x G1 => (ev C Γ b ρ G1).wp fun y G2 => (binR op x y G2).wp Q := by rw [ev]; simp only [wp_bind]
@[simp] theorem w_neg {a : E} : (ev C Γ (.neg a) ρ G).wp Q = (ev C Γ a ρ G).wp fun x G1 => match x with
    | .val (.int i) => Q (.val (.int (-i))) G1
    | _ => False := by
  rw [ev, wp_bind]
  congr 1
  funext x G1
  cases x with
  | val d => cases d <;> rfl
  | _ => rfl
@[simp] theorem w_cmp {op : Cop} {a b : E} : (ev C Γ (.cmp op a b) ρ G).wp Q = (ev C Γ a ρ G).wp fun x G1 => (ev C Γ b ρ G1).wp fun y G2 => match cmpR op x y G2 with
    | some b => Q (.val (.bl b)) G2
    | none => False := by rw [ev]; simp only [wp_bind, wp_optB]
@[simp] theorem w_idx {a i : E} : (ev C Γ (.idx a i) ρ G).wp Q = (ev C Γ a ρ G).wp fun x G1 => (ev C Γ i ρ G1).wp fun y G2 => (idxR x y G2).wp Q := by rw [ev]; simp only [wp_bind]
@[simp] theorem w_slc {a lo hi : E} : (ev C Γ (.slc a lo hi) ρ G).wp Q = (ev C Γ a ρ G).wp fun x G1 => (partF lo (fun G2 => ev C Γ lo ρ G2) G1).wp fun l G2 => (partF hi (fun G3 => ev C Γ hi ρ G3) G2).wp fun h G3 => (cutR x l h G3).wp Q := by rw [ev]; simp only [wp_bind]
@[simp] theorem p_non {f : Hpp → Res R} {Q : Option Int → Hpp → Prop} : (partF .non f G).wp Q = Q none G := rfl
theorem p_ex {e : E} {f : Hpp → Res R} {Q : Option Int → Hpp → Prop} (h : (match e with
    | .non => true
    | _ => false) = false) : (partF e f G).wp Q = (f G).wp fun r G1 => match r with
    | .val (.int i) => Q (some i) G1
    | _ => False := by
  have q : partF e f G = (f G).bind fun r G1 => match r with
    | .val (.int i) => .ok (some i) G1
    | _ => .bad := by cases e <;> first | rfl | cases h
  rw [q, wp_bind]
  congr 1
  funext x G1
  cases x with
  | val d => cases d <;> rfl
  | _ => rfl
@[simp] theorem p_var {i : Nat} {f : Hpp → Res R} {Q : Option Int → Hpp → Prop} : (partF (.var i) f G).wp Q = (f G).wp fun r G1 => match r with
    | .val (.int i) => Q (some i) G1
    | _ => False := p_ex rfl
@[simp] theorem p_bin {o : Bop} {a b : E} {f : Hpp → Res R} {Q : Option Int → Hpp → Prop} : (partF (.bin o a b) f G).wp Q = (f G).wp fun r G1 => match r with
    | .val (.int i) => Q (some i) G1
    | _ => False := p_ex rfl
@[simp] theorem p_int {i : Int} {f : Hpp → Res R} {Q : Option Int → Hpp → Prop} : (partF (.int i) f G).wp Q = (f G).wp fun r G1 => match r with
    | .val (.int i) => Q (some i) G1
    | _ => False := p_ex rfl
@[simp] theorem w_call {f : Str} {es ks : Es} {dd : List D} : (ev C Γ (.call f es ks dd) ρ G).wp Q = (evs C Γ es ρ G).wp fun ds G1 => (evs C Γ ks ρ G1).wp fun zs G2 => (C f (ds ++ zs ++ dd) G2).wp fun d G3 => Q (.val d) G3 := by rw [ev]; simp only [wp_bind]; rfl
@[simp] theorem w_len {a : E} : (ev C Γ (.len a) ρ G).wp Q = (ev C Γ a ρ G).wp fun x G1 => (lenR x G1).wp Q := by rw [ev]; simp only [wp_bind]
@[simp] theorem w_abs {a : E} : (ev C Γ (.abs a) ρ G).wp Q = (ev C Γ a ρ G).wp fun x G1 => match x with
    | .val (.int i) => Q (.val (.int (if i < 0 then -i else i))) G1
    | _ => False := by
  rw [ev, wp_bind]
  congr 1
  funext x G1
  cases x with
  | val d => cases d <;> rfl
  | _ => rfl
@[simp] theorem w_int1 {a : E} : (ev C Γ (.int1 a) ρ G).wp Q = (ev C Γ a ρ G).wp fun x G1 => match x with
    | .val (.int i) => Q (.val (.int i)) G1
    | .val (.bl b) => Q (.val (.int (if b then 1 else 0))) G1
    | _ => False := by
  rw [ev, wp_bind]
  congr 1
  funext x G1
  cases x with
  | val d => cases d <;> rfl
  | _ => rfl
@[simp] theorem w_min2 {a b : E} : (ev C Γ (.min2 a b) ρ G).wp Q = (ev C Γ a ρ G).wp fun x G1 => (ev C Γ b ρ G1).wp fun y G2 => match x, y with
    | .val (.int i), .val (.int j) => Q (.val (.int (if j < i then j else i))) G2
    | _, _ => False := by
  rw [ev, wp_bind]
  congr 1
  funext x G1
  rw [wp_bind]
  congr 1
  funext y G2
  cases x with
  | val d => cases d <;> first
    | rfl
    | (cases y with
      | val e => cases e <;> rfl
      | _ => rfl)
  | _ => rfl
@[simp] theorem w_max2 {a b : E} : (ev C Γ (.max2 a b) ρ G).wp Q = (ev C Γ a ρ G).wp fun x G1 => (ev C Γ b ρ G1).wp fun y G2 => match x, y with
    | .val (.int i), .val (.int j) => Q (.val (.int (if j > i then j else i))) G2
    | _, _ => False := by
  rw [ev, wp_bind]
  congr 1
  funext x G1
  rw [wp_bind]
  congr 1
  funext y G2
  cases x with
  | val d => cases d <;> first
    | rfl
    | (cases y with
      | val e => cases e <;> rfl
      | _ => rfl)
  | _ => rfl
@[simp] theorem w_isi {a : E} {t : Ty} : (ev C Γ (.isi a t) ρ G).wp Q = (ev C Γ a ρ G).wp fun x G1 => match isiR x t G1 with
    | some b => Q (.val (.bl b)) G1
    | none => False := by rw [ev]; simp only [wp_bind, wp_optB]
@[simp] theorem w_seq {a : E} {b : Sb} : (ev C Γ (.seq b a) ρ G).wp Q = (ev C Γ a ρ G).wp fun x G1 => (seqR b x G1).wp Q := by rw [ev]; simp only [wp_bind]
@[simp] theorem w_m0 {m : M0} {o : E} : (ev C Γ (.meth0 m o) ρ G).wp Q = (ev C Γ o ρ G).wp fun x G1 => (lstM x G1).isSome = true ∧ (meth0R m x G1).wp Q := by
  rw [ev, wp_bind]
  congr 1
  funext x G1
  rw [wp_guard]
@[simp] theorem w_m1 {m : M1} {o a : E} : (ev C Γ (.meth1 m o a) ρ G).wp Q = (ev C Γ o ρ G).wp fun x G1 => (lstM x G1).isSome = true ∧ (ev C Γ a ρ G1).wp fun y G2 => (meth1R m x y G2).wp Q := by
  rw [ev, wp_bind]
  congr 1
  funext x G1
  rw [wp_guard, wp_bind]
@[simp] theorem ws_nil {Q : List D → Hpp → Prop} : (evs C Γ .nil ρ G).wp Q = Q [] G := rfl
@[simp] theorem ws_cons {e : E} {r : Es} {Q : List D → Hpp → Prop} : (evs C Γ (.cons e r) ρ G).wp Q = (ev C Γ e ρ G).wp fun x G1 => (toD x G1).wp fun d G1 => (evs C Γ r ρ G1).wp fun ds G2 => Q (d :: ds) G2 := by rw [evs]; simp only [wp_bind]; rfl
@[simp] theorem wi_ex {e : E} {Q : Walk → Hpp → Prop} : (evI C Γ (.ex e) ρ G).wp Q = (ev C Γ e ρ G).wp fun x G1 => (toWalk x G1).wp Q := by rw [evI, wp_bind]
@[simp] theorem wi_rng1 {e : E} {Q : Walk → Hpp → Prop} : (evI C Γ (.rng1 e) ρ G).wp Q = (ev C Γ e ρ G).wp fun x G1 => match x with
    | .val (.int j) => (-(LIM : Int) ≤ j ∧ j ≤ LIM) ∧ Q (.rng 0 j.toNat) G1
    | _ => False := by
  rw [evI, wp_bind]
  congr 1
  funext x G1
  cases x with
  | val d => cases d <;> first
    | rfl
    | exact wp_guard
  | _ => rfl
@[simp] theorem wi_enum {e : E} {Q : Walk → Hpp → Prop} : (evI C Γ (.enum e) ρ G).wp Q = (ev C Γ e ρ G).wp fun x G1 => (toWalk x G1).wp fun w G2 => Q (.enum w) G2 := by rw [evI]; simp only [wp_bind]; rfl
@[simp] theorem wi_zip {a b : E} {Q : Walk → Hpp → Prop} : (evI C Γ (.zip a b) ρ G).wp Q = (ev C Γ a ρ G).wp fun x G1 => (ev C Γ b ρ G1).wp fun y G2 => x.isTup = y.isTup ∧ (toWalk x G2).wp fun w G3 => (toWalk y G3).wp fun v G4 => Q (.zip w v) G4 := by
  rw [evI]
  simp only [wp_bind]
  congr 1
  funext x G1
  congr 1
  funext y G2
  rw [wp_guard]
  simp only [wp_bind]
  rfl
@[simp] theorem f_set {i : Nat} {e : E} : (exS C Γ (.set i e) ρ G).wp nx bk ct rt = (ev C Γ e ρ G).wp fun x G1 => (toD x G1).wp fun d G1 => nx (ρ.set i (some d)) G1 := by rw [exS, f_res, wp_bind]; rfl
@[simp] theorem f_setT {js : List Nat} {e : E} : (exS C Γ (.setT js e) ρ G).wp nx bk ct rt = (ev C Γ e ρ G).wp fun x G1 => match x with
    | .val (.tup ds) => (match setSlots ρ js ds with
      | some ρ1 => nx ρ1 G1
      | none => False)
    | _ => False := by
  rw [exS, f_res]
  congr 1
  funext x G1
  cases x with
  | val d => cases d <;> first
    | rfl
    | (dsimp only
       cases setSlots ρ js _ <;> rfl)
  | _ => rfl
@[simp] theorem f_setI {o i e : E} : (exS C Γ (.setI o i e) ρ G).wp nx bk ct rt = (ev C Γ e ρ G).wp fun x G1 => (toD x G1).wp fun d G1 => (ev C Γ o ρ G1).wp fun x G2 => (ev C Γ i ρ G2).wp fun y G3 => match setIR x y d G3 with
    | some G4 => nx ρ G4
    | none => False := by
  rw [exS, f_res, wp_bind]
  congr 1
  funext x G1
  congr 1
  funext d G2
  rw [f_res]
  congr 1
  funext x G3
  rw [f_res]
  congr 1
  funext y G4
  cases setIR x y d G4 <;> rfl
@[simp] theorem f_expr {e : E} : (exS C Γ (.expr e) ρ G).wp nx bk ct rt = (ev C Γ e ρ G).wp fun _ G1 => nx ρ G1 := by rw [exS, f_res]; rfl
@[simp] theorem f_ret {e : E} : (exS C Γ (.ret e) ρ G).wp nx bk ct rt = (ev C Γ e ρ G).wp fun x G1 => (toD x G1).wp rt := by rw [exS, f_res, wp_bind]; rfl
@[simp] theorem f_retN : (exS C Γ .retN ρ G).wp nx bk ct rt = rt .non G := rfl
@[simp] theorem f_brk : (exS C Γ .brk ρ G).wp nx bk ct rt = bk ρ G := rfl
@[simp] theorem f_cnt : (exS C Γ .cnt ρ G).wp nx bk ct rt = ct ρ G := rfl
@[simp] theorem f_pass : (exS C Γ .pass ρ G).wp nx bk ct rt = nx ρ G := rfl
/-! ### values -/
@[simp] theorem td_val {d : D} {Q : D → Hpp → Prop} : (toD (.val d) G).wp Q = Q d G := rfl
@[simp] theorem td_newL {ds : List D} {Q : D → Hpp → Prop} : (toD (.newL ds) G).wp Q = Q (.ref G.length) (G ++ [.lst ds]) := rfl
@[simp] theorem td_newD {t : Bool} {ds : List (D × D)} {Q : D → Hpp → Prop} : (toD (.newD t ds) G).wp Q = Q (.ref G.length) (G ++ [.dct t ds]) := rfl
@[simp] theorem b_ii {op : Bop} {i j : Int} : binR op (.val (.int i)) (.val (.int j)) G = binI op i j G := rfl
@[simp] theorem b_add {i j : Int} : (binI .add i j G).wp Q = Q (.val (.int (i + j))) G := rfl
@[simp] theorem b_sub {i j : Int} : (binI .sub i j G).wp Q = Q (.val (.int (i - j))) G := rfl
@[simp] theorem b_mul {i j : Int} : (binI .mul i j G).wp Q = (mulOk i j = true ∧ Q (.val (.int (i * j))) G) := wp_guard
@[simp] theorem b_fdiv {i j : Int} : (binI .fdiv i j G).wp Q = ((j ≠ 0 ∧ j.natAbs < 1073741824) ∧ Q (.val (.int (i.fdiv j))) G) := wp_guard
@[simp] theorem b_mod {i j : Int} : (binI .mod i j G).wp Q = (j ≠ 0 ∧ Q (.val (.int (i.fmod j))) G) := wp_guard
@[simp] theorem b_pow {i j : Int} : (binI .pow i j G).wp Q = ((0 ≤ j ∧ j ≤ 1000 ∧ i.natAbs < 2 ^ 64) ∧ Q (.val (.int (i ^ j.toNat))) G) := wp_guard
@[simp] theorem c_gt {i j : Int} : cmpR .gt (.val (.int i)) (.val (.int j)) G = some (decide (j < i)) := rfl
@[simp] theorem c_lt {i j : Int} : cmpR .lt (.val (.int i)) (.val (.int j)) G = some (decide (i < j)) := rfl
@[simp] theorem c_ge {i j : Int} : cmpR .ge (.val (.int i)) (.val (.int j)) G = some (decide (j ≤ i)) := rfl
@[simp] theorem c_le {i j : Int} : cmpR .le (.val (.int i)) (.val (.int j)) G = some (decide (i ≤ j)) := rfl
@[simp] theorem c_eq {i j : Int} : cmpR .eq (.val (.int i)) (.val (.int j)) G = some (decide (i = j)) := rfl
@[simp] theorem c_ne {i j : Int} : cmpR .ne (.val (.int i)) (.val (.int j)) G = some (!decide (i = j)) := rfl
@[simp] theorem at_0 {α : Type} {x : α} {r : List α} : L2.atI (x :: r) 0 = some x := by
  simp only [L2.atI, L2.ixN, List.length_cons]
  rw [if_pos (by omega), if_pos (by omega)]
  rfl
@[simp] theorem at_1 {α : Type} {x y : α} {r : List α} : L2.atI (x :: y :: r) 1 = some y := by
  simp only [L2.atI, L2.ixN, List.length_cons]
  rw [if_pos (by omega), if_pos (by omega)]
  rfl
theorem at_nat {α : Type} {xs : List α} {j : Nat} : L2.atI xs (j : Int) = xs[j]? := by
  unfold L2.atI L2.ixN
  rw [if_pos (by omega)]
  by_cases h : j < xs.length
  · rw [if_pos (by omega)]; rfl
  · rw [if_neg (by omega), List.getElem?_eq_none (by omega)]; rfl
theorem ix_tup {ds : List D} {i : Int} : (idxR (.val (.tup ds)) (.val (.int i)) G).wp Q = match L2.atI ds i with
    | some d => Q (.val d) G
    | none => False := by
  show (match L2.atI ds i with
    | some d => okV d G
    | none => .bad).wp Q = _
  cases L2.atI ds i <;> rfl
theorem ix_lst {n : Nat} {ds : List D} {i : Int} (h : G[n]? = some (.lst ds)) : (idxR (.val (.ref n)) (.val (.int i)) G).wp Q = match L2.atI ds i with
    | some d => Q (.val d) G
    | none => False := by
  simp only [idxR, h]
  cases L2.atI ds i <;> rfl
theorem st_lst {n m : Nat} {ds : List D} {i : Int} {d : D} (h : G[n]? = some (.lst ds)) (e : L2.ixN ds.length i = some m) : setIR (.val (.ref n)) (.val (.int i)) d G = some (G.set n (.lst (ds.set m d))) := by
  simp only [setIR, h, e]
/-! ### loops -/
/-- the items of a walk -/
def Its (w : Walk) (ds : List D) (G : Hpp) : Prop := (∀ i, w.item i G = match ds[i]? with
  | some d => .yld d
  | none => .stop) ∧ w.size G = ds.length
theorem its_fix {ds : List D} : Its (.fix ds) ds G := ⟨fun i => rfl, rfl⟩
theorem its_cell {n : Nat} {ds : List D} (h : G[n]? = some (.lst ds)) : Its (.cell n) ds G := ⟨fun i => by simp only [Walk.item, h]; try (cases ds[i]? <;> rfl), by simp only [Walk.size, h]⟩
theorem its_rng {lo : Int} {n : Nat} : Its (.rng lo n) ((List.range n).map fun (k : Nat) => .int (lo + k)) G := by
  refine ⟨fun i => ?_, by simp [Walk.size]⟩
  simp only [Walk.item, List.getElem?_map, List.getElem?_range]
  by_cases h : i < n
  · rw [if_pos h, List.getElem?_range h]; rfl
  · rw [if_neg h, List.getElem?_eq_none (by simpa using h)]; rfl
theorem its_enum {w : Walk} {ds : List D} (h : Its w ds G) : Its (.enum w) (ds.zipIdx.map fun p => .tup [.int p.2, p.1]) G := by
  refine ⟨fun i => ?_, by simp [Walk.size, h.2]⟩
  simp only [Walk.item, h.1 i, List.getElem?_map, List.getElem?_zipIdx]
  cases ds[i]? <;> simp
theorem its_zip {w v : Walk} {ds es : List D} (h : Its w ds G) (g : Its v es G) : Its (.zip w v) ((ds.zip es).map fun p => .tup [p.1, p.2]) G := by
  refine ⟨fun i => ?_, by simp [Walk.size, h.2, g.2]⟩
  simp only [Walk.item, h.1 i, g.1 i, List.getElem?_map]
  have e : (ds.zip es)[i]? = (match ds[i]?, es[i]? with
    | some a, some b => some (a, b)
    | _, _ => none) := by
    rw [List.zip, List.getElem?_zipWith]
    cases ds[i]? <;> cases es[i]? <;> rfl
  rw [e]
  cases ds[i]? <;> cases es[i]? <;> rfl
theorem loop_wp {f : D → Env → Hpp → Fl} {w : Walk} {ds : List D} (I : Nat → Env → Hpp → Prop) (hi : ∀ i ρ G, I i ρ G → Its w ds G) (hs : ∀ i d ρ G, ds[i]? = some d → I i ρ G → (f d ρ G).wp (I (i + 1)) nx (I (i + 1)) rt) (he : ∀ ρ G, I ds.length ρ G → nx ρ G) :
    ∀ (n i : Nat) (ρ : Env) (G : Hpp), i ≤ ds.length → ds.length - i < n → I i ρ G → (loopF f w n i ρ G).wp nx bk ct rt
  | 0, _, _, _, _, h, _ => by omega
  | n + 1, i, ρ, G, hl, hn, h => by
    rw [loopF, (hi i ρ G h).1 i]
    cases e : ds[i]? with
    | none =>
      have : i = ds.length := by
        have := List.getElem?_eq_none_iff.mp e
        omega
      subst this
      exact he ρ G h
    | some d =>
      have hlt := (List.getElem?_eq_some_iff.mp e).1
      have q := hs i d ρ G e h
      dsimp only
      cases e2 : f d ρ G with
      | nx ρ1 G1 => rw [e2] at q; exact loop_wp I hi hs he n (i + 1) ρ1 G1 hlt (by omega) q
      | ct ρ1 G1 => rw [e2] at q; exact loop_wp I hi hs he n (i + 1) ρ1 G1 hlt (by omega) q
      | bk ρ1 G1 => rw [e2] at q; exact q
      | rt d G1 => rw [e2] at q; exact q
      | ex _ _ _ _ => rw [e2] at q; exact q
      | bad => rw [e2] at q; exact q
theorem loop_at {f : D → Env → Hpp → Fl} {w : Walk} {ds : List D} (I : Nat → Env → Hpp → Prop) (h0 : I 0 ρ G) (hi : ∀ i ρ G, I i ρ G → Its w ds G) (hs : ∀ i d ρ G, ds[i]? = some d → I i ρ G → (f d ρ G).wp (I (i + 1)) nx (I (i + 1)) rt) (he : ∀ ρ G, I ds.length ρ G → nx ρ G) :
    (loopF f w (w.size G + 1) 0 ρ G).wp nx bk ct rt := loop_wp I hi hs he _ 0 ρ G (Nat.zero_le _) (by rw [(hi 0 ρ G h0).2]; omega) h0
theorem comp_wp {f : D → Hpp → Res (Option D)} {w : Walk} {ds : List D} {Q : List D → Hpp → Prop} (I : Nat → List D → Hpp → Prop) (hi : ∀ i acc G, I i acc G → Its w ds G) (hl : ds.length ≤ LIM) (hs : ∀ i d acc G, ds[i]? = some d → I i acc G → (f d G).wp fun o G1 => match o with
    | some x => I (i + 1) (acc ++ [x]) G1
    | none => I (i + 1) acc G1) (he : ∀ acc G, I ds.length acc G → Q acc G) :
    ∀ (n i : Nat) (acc : List D) (G : Hpp), acc.length ≤ i → i ≤ ds.length → ds.length - i < n → I i acc G → (compF f w n i acc G).wp Q
  | 0, _, _, _, _, _, h, _ => by omega
  | n + 1, i, acc, G, ha, hl', hn, h => by
    rw [compF, (hi i acc G h).1 i]
    cases e : ds[i]? with
    | none =>
      have : i = ds.length := by
        have := List.getElem?_eq_none_iff.mp e
        omega
      subst this
      exact he acc G h
    | some d =>
      have hlt := (List.getElem?_eq_some_iff.mp e).1
      have q := hs i d acc G e h
      dsimp only
      rw [wp_bind]
      refine wp_imp q fun o G1 q1 => ?_
      cases o with
      | some x =>
        dsimp only at q1 ⊢
        rw [if_pos (by omega)]
        exact comp_wp I hi hl hs he n (i + 1) _ G1 (by simp; omega) hlt (by omega) q1
      | none => exact comp_wp I hi hl hs he n (i + 1) _ G1 (by omega) hlt (by omega) q1
theorem comp_at {f : D → Hpp → Res (Option D)} {w : Walk} {ds : List D} {Q : List D → Hpp → Prop} (I : Nat → List D → Hpp → Prop) (h0 : I 0 [] G) (hl : ds.length ≤ LIM) (hi : ∀ i acc G, I i acc G → Its w ds G) (hs : ∀ i d acc G, ds[i]? = some d → I i acc G → (f d G).wp fun o G1 => match o with
    | some x => I (i + 1) (acc ++ [x]) G1
    | none => I (i + 1) acc G1) (he : ∀ acc G, I ds.length acc G → Q acc G) : (compF f w (w.size G + 1) 0 [] G).wp Q :=
  comp_wp I hi hl hs he _ 0 [] G (Nat.zero_le _) (Nat.zero_le _) (by rw [(hi 0 [] G h0).2]; omega) h0
/-- a comprehension that changes no cell -/
theorem comp_pure {f : D → Hpp → Res (Option D)} {w : Walk} {ds : List D} {Q : List D → Hpp → Prop} (o : D → Option D) (hi : Its w ds G) (hl : ds.length ≤ LIM) (hs : ∀ d ∈ ds, f d G = .ok (o d) G) (he : Q (ds.filterMap o) G) : (compF f w (w.size G + 1) 0 [] G).wp Q := by
  refine comp_at (fun i acc G' => G' = G ∧ acc = (ds.take i).filterMap o) ⟨rfl, by simp⟩ hl (fun i acc G' h => h.1 ▸ hi) (fun i d acc G' e h => ?_) fun acc G' h => ?_
  · obtain ⟨rfl, rfl⟩ := h
    rw [hs d (List.mem_of_getElem? e)]
    have e2 : ds.take (i + 1) = ds.take i ++ [d] := by rw [List.take_add_one, e]; rfl
    rw [wp_ok, e2, List.filterMap_append]
    cases e3 : o d with
    | none => simp [List.filterMap_cons, e3]
    | some x => simp [List.filterMap_cons, e3]
  · obtain ⟨rfl, rfl⟩ := h
    rw [List.take_length]
    exact he
end
/-! ### calls -/
theorem low_int {n : Nat} {i : Int} : D.low n (.int i) = true := rfl
theorem gc_id {G : Hpp} {v : D} (h : v.low G.length = true) {ex : List Cell} : gc G v (G ++ ex) = .ok v G := by
  unfold gc
  have : oldOk G (G ++ ex) = true := by
    unfold oldOk
    rw [List.all_eq_true]
    intro i hi
    rw [List.mem_range] at hi
    rw [List.getElem?_append_left hi]
    simp
  rw [if_pos ⟨this, by simp⟩, if_pos h, List.take_left]
theorem gc_set {G : Hpp} {v : D} {b : Nat} {c : Cell} (h : v.low G.length = true) (hc : c.low G.length = true) {ex : List Cell} : gc G v (G.set b c ++ ex) = .ok v (G.set b c) := by
  unfold gc
  have : oldOk G (G.set b c ++ ex) = true := by
    unfold oldOk
    rw [List.all_eq_true]
    intro i hi
    rw [List.mem_range] at hi
    rw [List.getElem?_append_left (by rw [List.length_set]; exact hi)]
    by_cases hb : b = i
    · subst hb
      rw [List.getElem?_set_self hi]
      simp [hc]
    · rw [List.getElem?_set_ne hb]
      simp
  rw [if_pos ⟨this, by simp⟩, if_pos h]
  have : G.length = (G.set b c).length := by simp
  rw [this, List.take_left]
theorem call_eq {T : Tab} {Γ : Str → Option D} {f : Str} {fd : FnDef} (hT : T f = some fd) {args : List D} (hl : args.length = fd.np) {G : Hpp} {d : Nat} {Q : D → Hpp → Prop}
    (h : (exSs (callF T Γ d) Γ fd.body (args.map some ++ List.replicate (fd.ns - fd.np) none) G).wp (fun _ G1 => (gc G .non G1).wp Q) (fun _ _ => False) (fun _ _ => False) (fun v G1 => (gc G v G1).wp Q)) :
    (callF T Γ (d + 1) f args G).wp Q := by
  simp only [callF, hT]
  rw [if_pos hl]
  cases e : exSs (callF T Γ d) Γ fd.body (args.map some ++ List.replicate (fd.ns - fd.np) none) G <;> rw [e] at h <;> first | exact h | exact h.elim
end LK

set_option Elab.async false
set_option linter.all false
set_option autoImplicit false
set_option maxRecDepth 100000
set_option maxHeartbeats 2000000
/-! MKit: the laws' own helpers: _law_box, _law_take, _law_pick, _law_same. -/
namespace LK
open PySem
def kBox (c1 c2 c3 : Int) : FnDef :=
  ⟨2, 4, .cons (.set 2 (.bin .add (.bin .mul (.int c1) (.var 1)) (.int c2)))
    (.cons (.ite (.cmp .lt (.var 1) (.len (.var 0)))
    (.cons (.set 2 (.abs (.int1 (.idx (.var 0) (.var 1)))))
    (.nil))
    (.cons (.ite (.cmp .gt (.len (.var 0)) (.int 0))
    (.cons (.set 2 (.bin .add (.var 2) (.bin .mul (.bin .mod (.int1 (.abs (.int1 (.idx (.var 0) (.bin .mod (.int1 (.var 1)) (.len (.var 0))))))) (.int 2147483563)) (.int c3))))
    (.nil))
    (.nil))
    (.nil)))
    (.cons (.set 3 (.ite (.cmp .ge (.var 2) (.bin .pow (.int 10) (.int 18))) (.var 2) (.int 0)))
    (.cons (.ret (.lst (.cons (.var 3) (.cons (.bin .add (.bin .mod (.int1 (.bin .add (.bin .mul (.bin .mod (.int1 (.var 2)) (.int 2147483563)) (.int 54250003)) (.bin .mul (.int c2) (.var 1)))) (.int 2147483563)) (.int 1)) (.nil)))))
    (.nil))))⟩
def kTake (a c : Int) : FnDef :=
  ⟨2, 4, .cons (.ite (.cmp .gt (.idx (.var 0) (.int 0)) (.int 0))
    (.cons (.set 2 (.bin .mod (.int1 (.idx (.var 0) (.int 0))) (.var 1)))
    (.cons (.setI (.var 0) (.int 0) (.bin .fdiv (.idx (.var 0) (.int 0)) (.var 1)))
    (.cons (.ret (.var 2))
    (.nil))))
    (.nil))
    (.cons (.set 3 (.bin .mod (.int1 (.bin .add (.bin .mul (.idx (.var 0) (.int 1)) (.int 39373)) (.int a))) (.int 2147483647)))
    (.cons (.setI (.var 0) (.int 1) (.bin .add (.bin .mod (.int1 (.bin .add (.bin .mul (.var 3) (.int 40692)) (.int c))) (.int 2147483563)) (.int 1)))
    (.cons (.ret (.bin .mod (.int1 (.bin .fdiv (.bin .add (.bin .mul (.var 3) (.int 2147483629)) (.idx (.var 0) (.int 1))) (.int 8233))) (.var 1)))
    (.nil))))⟩
def d__law_pick : FnDef :=
  ⟨2, 2, .cons (.ret (.idx (.var 1) (.call "_law_take" (.cons (.var 0) (.cons (.len (.var 1)) (.nil))) (.nil) [])))
    (.nil)⟩
def d__law_same : FnDef :=
  ⟨2, 4, .cons (.ite (.isi (.var 1) .tuple)
    (.cons (.ite (.or (.not (.isi (.var 0) .tuple)) (.cmp .ne (.len (.var 0)) (.len (.var 1))))
    (.cons (.ret (.bl false))
    (.nil))
    (.nil))
    (.cons (.for_ (.many [2, 3]) (.zip (.var 0) (.var 1))
    (.cons (.ite (.not (.call "_law_same" (.cons (.var 2) (.cons (.var 3) (.nil))) (.nil) []))
    (.cons (.ret (.bl false))
    (.nil))
    (.nil))
    (.nil)))
    (.cons (.ret (.bl true))
    (.nil))))
    (.nil))
    (.cons (.ite (.cmp .is (.var 1) (.non))
    (.cons (.ret (.cmp .is (.var 0) (.non)))
    (.nil))
    (.nil))
    (.cons (.ite (.or (.cmp .is (.var 1) (.bl true)) (.cmp .is (.var 1) (.bl false)))
    (.cons (.ret (.and (.isi (.var 0) .bool) (.cmp .eq (.var 0) (.var 1))))
    (.nil))
    (.nil))
    (.cons (.ite (.isi (.var 1) .int)
    (.cons (.ret (.and (.isi (.var 0) .int) (.and (.not (.isi (.var 0) .bool)) (.cmp .eq (.var 0) (.var 1)))))
    (.nil))
    (.nil))
    (.cons (.ret (.and (.isi (.var 0) .str) (.and (.isi (.var 1) .str) (.cmp .eq (.var 0) (.var 1)))))
    (.nil)))))⟩
section
variable {T : Tab} {Γ : Str → Option D} {d : Nat} {G : Hpp} 
/-- the law's _law_take, whatever its numbers -/
def IsTake (T : Tab) : Prop := ∃ a c : Int, T "_law_take" = some (kTake a c)
/-- the law's _law_box -/
def IsBox (T : Tab) : Prop := ∃ c1 c2 c3 : Int, T "_law_box" = some (kBox c1 c2 c3) ∧ c1.natAbs < 2 ^ 64 ∧ c2.natAbs < 2 ^ 64 ∧ c3.natAbs < 2 ^ 64
theorem fmod_lt {i j : Int} (h : 0 < j) : 0 ≤ i.fmod j ∧ i.fmod j < j := ⟨Int.fmod_nonneg_of_pos i h, Int.fmod_lt_of_pos i h⟩
theorem mul_r {i j : Int} (h : j.natAbs < 2 ^ 64) : mulOk i j = true := by
  unfold mulOk
  simp only [Bool.or_eq_true, Bool.and_eq_true, decide_eq_true_eq]
  right
  omega
theorem mul_l {i j : Int} (h : i.natAbs < 2 ^ 64) : mulOk i j = true := by
  unfold mulOk
  simp only [Bool.or_eq_true, Bool.and_eq_true, decide_eq_true_eq]
  left
  omega
theorem ixN_0 {n : Nat} : L2.ixN (n + 1) 0 = some 0 := by
  unfold L2.ixN
  rw [if_pos (by omega), if_pos (by omega)]
  rfl
theorem ixN_1 {n : Nat} : L2.ixN (n + 1 + 1) 1 = some 1 := by
  unfold L2.ixN
  rw [if_pos (by omega), if_pos (by omega)]
  rfl
theorem box_lt {b : Nat} {c : Cell} (hb : G[b]? = some c) : b < G.length := (List.getElem?_eq_some_iff.mp hb).1
theorem take_wp (hT : IsTake T) {b : Nat} {x y many : Int} (hb : G[b]? = some (.lst [.int x, .int y])) (h0 : 0 < many) (h1 : many < 1073741824) :
    (callF T Γ (d + 1) "_law_take" [.ref b, .int many] G).wp fun r G1 => ∃ i x' y' : Int, r = .int i ∧ 0 ≤ i ∧ i < many ∧ G1 = G.set b (.lst [.int x', .int y']) := by
  obtain ⟨a, c, hT⟩ := hT
  refine call_eq hT rfl ?_
  have hbl := box_lt hb
  have s1 : ∀ (c : Cell), (G.set b c)[b]? = some c := fun c => List.getElem?_set_self hbl
  have e1 : ∀ v : D, setIR (.val (.ref b)) (.val (.int 0)) v G = some (G.set b (.lst [v, .int y])) := fun v => by rw [st_lst hb ixN_0]; rfl
  have e2 : ∀ v : D, setIR (.val (.ref b)) (.val (.int 1)) v G = some (G.set b (.lst [.int x, v])) := fun v => by rw [st_lst hb ixN_1]; rfl
  have m1 : many ≠ 0 := by omega
  have m2 : many.natAbs < 1073741824 := by omega
  have g : ∀ (v : Int) (c d : Int), gc G (.int v) (G.set b (.lst [.int c, .int d])) = .ok (.int v) (G.set b (.lst [.int c, .int d])) := fun v c d => by
    have := gc_set (G := G) (v := .int v) (b := b) (c := .lst [.int c, .int d]) rfl rfl (ex := [])
    rwa [List.append_nil] at this
  simp [kTake, ix_lst hb, ix_lst (s1 _), e1, e2, m1, m2, g, mul_r]
  split
  · exact ⟨(fmod_lt h0).1, (fmod_lt h0).2, _, _, rfl⟩
  · exact ⟨(fmod_lt h0).1, (fmod_lt h0).2, _, _, rfl⟩
/-- some[_law_take(box, len(some))], of a list or a tuple -/
theorem pick_wp (hT : IsTake T) (hP : T "_law_pick" = some d__law_pick) {b : Nat} {x y : Int} {r : D} {ds : List D} (hb : G[b]? = some (.lst [.int x, .int y])) (hr : r = .tup ds ∨ ∃ n, n ≠ b ∧ r = .ref n ∧ G[n]? = some (.lst ds)) (h0 : ds ≠ []) (h1 : ds.length < 1073741824) (hlow : ∀ e ∈ ds, e.low G.length = true) :
    (callF T Γ (d + 2) "_law_pick" [.ref b, r] G).wp fun v G1 => ∃ x' y' : Int, v ∈ ds ∧ G1 = G.set b (.lst [.int x', .int y']) := by
  refine call_eq hP rfl ?_
  have hl0 : 0 < ds.length := List.length_pos_iff.mpr h0
  have len : ∀ {Q : R → Hpp → Prop}, (lenR (.val r) G).wp Q = Q (.val (.int ds.length)) G := by
    intro Q
    rcases hr with rfl | ⟨n, _, rfl, hn⟩
    · rfl
    · simp [lenR, hn]
  have ix : ∀ (x' y' i : Int), 0 ≤ i → i < ds.length → ∃ v ∈ ds, ∀ {Q : R → Hpp → Prop}, (idxR (.val r) (.val (.int i)) (G.set b (.lst [.int x', .int y']))).wp Q = Q (.val v) (G.set b (.lst [.int x', .int y'])) := by
    intro x' y' i i0 i1
    obtain ⟨j, rfl⟩ := Int.eq_ofNat_of_zero_le i0
    have hj : j < ds.length := by omega
    refine ⟨ds[j], List.getElem_mem hj, fun {Q} => ?_⟩
    rcases hr with rfl | ⟨n, nb, rfl, hn⟩
    · rw [ix_tup, at_nat, List.getElem?_eq_getElem hj]
    · rw [ix_lst (ds := ds) (by rw [List.getElem?_set_ne (Ne.symm nb)]; exact hn), at_nat, List.getElem?_eq_getElem hj]
  simp [d__law_pick, len]
  refine wp_imp (take_wp hT hb (by omega) (by omega)) fun v G1 ⟨i, x', y', e, i0, i1, e1⟩ => ?_
  subst e e1
  obtain ⟨v, hv, hx⟩ := ix x' y' i i0 i1
  rw [hx]
  have := gc_set (G := G) (v := v) (b := b) (c := .lst [.int x', .int y']) (hlow v hv) rfl (ex := [])
  rw [List.append_nil] at this
  simp [this]
  exact ⟨hv, _, _, rfl⟩
theorem box_wp (hT : IsBox T) {ns : List Int} {k : Nat} (hk : k < 1000) (hn : ns.length ≤ 63) :
    (callF T Γ (d + 1) "_law_box" [.frl (ns.map .int), .int k] G).wp fun v G1 => ∃ x y : Int, v = .ref G.length ∧ G1 = G ++ [.lst [.int x, .int y]] := by
  obtain ⟨c1, c2, c3, hT, k1, k2, k3⟩ := hT
  refine call_eq hT rfl ?_
  have len : ∀ {Q : R → Hpp → Prop}, (lenR (.val (.frl (ns.map D.int))) G).wp Q = Q (.val (.int ns.length)) G := by
    intro Q
    simp [lenR, seqOf, lstOf]
  have g : ∀ x y : Int, gc G (.ref G.length) (G ++ [.lst [.int x, .int y]]) = .ok (.ref G.length) (G ++ [.lst [.int x, .int y]]) := by
    intro x y
    unfold gc
    have : oldOk G (G ++ [.lst [.int x, .int y]]) = true := by
      unfold oldOk
      rw [List.all_eq_true]
      intro i hi
      rw [List.mem_range] at hi
      rw [List.getElem?_append_left hi]
      simp
    rw [if_pos ⟨this, by simp⟩, if_neg (by simp [D.low])]
    simp [Cell.low, D.lowL, D.low]
  have ix : ∀ (i : Nat) {Q : R → Hpp → Prop}, i < ns.length → ((idxR (.val (.frl (ns.map D.int))) (.val (.int i)) G).wp Q = Q (.val (.int (ns.getD i 0))) G) := by
    intro i Q hi
    show (match seqOf (.val (.frl (ns.map D.int))) G with
      | some ds => match L2.atI ds (i : Int) with
        | some d => okV d G
        | none => .bad
      | none => .bad).wp Q = _
    simp [seqOf, lstOf, at_nat, List.getElem?_eq_getElem hi]
  have mr : ∀ i : Int, mulOk i c3 = true := fun i => mul_r k3
  simp [kBox, len, mul_r, mr]
  have m9 : mulOk c2 (k : Int) = true := mul_l k2
  have fin : ∀ x y : Int, (gc G (D.ref G.length) (G ++ [.lst [.int x, .int y]])).wp fun v G1 => v = D.ref G.length ∧ ∃ x y : Int, G1 = G ++ [.lst [.int x, .int y]] := fun x y => by
    rw [g]
    exact ⟨rfl, _, _, rfl⟩
  refine ⟨mul_l k1, ?_⟩
  split
  · rename_i hlt
    rw [ix k hlt]
    dsimp only
    (repeat' split) <;> exact ⟨m9, fin _ _⟩
  · split
    · rename_i hp
      have e : ((k : Int).fmod (ns.length : Int)) = ((k % ns.length : Nat) : Int) := by
        rw [Int.fmod_eq_emod_of_nonneg _ (by omega)]
        rfl
      refine ⟨by intro z; simp [z] at hp, ?_⟩
      rw [e, ix _ (Nat.mod_lt _ hp)]
      dsimp only
      (repeat' split) <;> exact ⟨m9, fin _ _⟩
    · try dsimp only
      (repeat' split) <;> exact ⟨m9, fin _ _⟩
end
end LK

set_option Elab.async false
set_option linter.all false
set_option autoImplicit false
set_option maxRecDepth 100000
set_option maxHeartbeats 2000000
/-! MSort: sorted, of numbers and of tuples of numbers. -/
namespace LK
open PySem

def tiD (t : List Int) : D := .tup (t.map .int)
theorem asc_eq {α : Type} {lt : α → α → Prop} (asym : ∀ a b, lt a b → lt b a → False) : ∀ {l m : List α}, l.Pairwise lt → m.Pairwise lt → (∀ t, t ∈ l ↔ t ∈ m) → l = m
  | [], [], _, _, _ => rfl
  | [], y :: m, _, _, h => absurd ((h y).mpr (List.mem_cons_self ..)) (by simp)
  | x :: l, [], _, _, h => absurd ((h x).mp (List.mem_cons_self ..)) (by simp)
  | x :: l, y :: m, hl, hm, h => by
    rw [List.pairwise_cons] at hl hm
    have e : x = y := by
      rcases List.mem_cons.mp ((h x).mp (List.mem_cons_self ..)) with z | z
      · exact z
      · rcases List.mem_cons.mp ((h y).mpr (List.mem_cons_self ..)) with z' | z'
        · exact z'.symm
        · exact (asym _ _ (hl.1 _ z') (hm.1 _ z)).elim
    subst e
    rw [asc_eq asym hl.2 hm.2 fun t => ?_]
    constructor
    · intro ht
      rcases List.mem_cons.mp ((h t).mp (List.mem_cons_of_mem _ ht)) with z | z
      · subst z; exact (asym _ _ (hl.1 _ ht) (hl.1 _ ht)).elim
      · exact z
    · intro ht
      rcases List.mem_cons.mp ((h t).mpr (List.mem_cons_of_mem _ ht)) with z | z
      · subst z; exact (asym _ _ (hm.1 _ ht) (hm.1 _ ht)).elim
      · exact z
theorem ltD_int (i j : Int) : ltD (.int i) (.int j) = decide (i < j) := by
  show PySem.W.dataLt (.int i) (.int j) = _
  unfold PySem.W.dataLt
  rw [PySem.W.keyToks, PySem.W.keyToks, PyProof.Rows.lex_cons]
  show (decide (i < j) || (!decide (j < i) && PyProof.Rows.lexLt PyProof.Rows.itemOrd [] [])) = decide (i < j)
  have : PyProof.Rows.lexLt PyProof.Rows.itemOrd [] [] = false := rfl
  rw [this, Bool.and_false, Bool.or_false]
theorem toPyL_int : ∀ a : List Int, D.toPyL (a.map .int) = a.map PyData.int
  | [] => rfl
  | x :: a => by rw [List.map_cons, D.toPyL, toPyL_int a]; rfl
theorem toks_lt : ∀ a b : List Int, PyProof.Rows.lexLt PyProof.Rows.itemOrd (PySem.W.keyToksAll (a.map PyData.int)) (PySem.W.keyToksAll (b.map PyData.int)) = decide (a < b)
  | [], [] => by
    rw [List.map_nil, PySem.W.keyToksAll, PyProof.Rows.lex_self]
    simp
    rfl
  | [], y :: b => by
    rw [List.map_nil, List.map_cons, PySem.W.keyToksAll, PySem.W.keyToksAll, PyProof.Rows.lex_cons]
    show (decide ((0 : Int) < 1) || _) = _
    simp
  | x :: a, [] => by
    rw [List.map_nil, List.map_cons, PySem.W.keyToksAll, PySem.W.keyToksAll, PyProof.Rows.lex_cons]
    show (decide ((1 : Int) < 0) || (!decide ((0 : Int) < 1) && _)) = _
    simp
  | x :: a, y :: b => by
    rw [List.map_cons, List.map_cons, PySem.W.keyToksAll, PySem.W.keyToksAll, PyProof.Rows.lex_self, PySem.W.keyToks, PySem.W.keyToks]
    show PyProof.Rows.lexLt PyProof.Rows.itemOrd (.inl x :: PySem.W.keyToksAll (a.map PyData.int)) (.inl y :: PySem.W.keyToksAll (b.map PyData.int)) = _
    rw [PyProof.Rows.lex_cons, toks_lt a b]
    show (decide (x < y) || (!decide (y < x) && decide (a < b))) = _
    rw [Bool.eq_iff_iff]
    simp only [Bool.or_eq_true, Bool.and_eq_true, decide_eq_true_eq, Bool.not_eq_true', decide_eq_false_iff_not, List.cons_lt_cons_iff]
    constructor
    · rintro (h | ⟨h1, h2⟩)
      · exact .inl h
      · by_cases h : x < y
        · exact .inl h
        · exact .inr ⟨by omega, h2⟩
    · rintro (h | ⟨rfl, h2⟩)
      · exact .inl h
      · exact .inr ⟨by omega, h2⟩
theorem ltD_tI (a b : List Int) : ltD (tiD a) (tiD b) = decide (a < b) := by
  show PySem.W.dataLt (D.toPy (tiD a)) (D.toPy (tiD b)) = _
  unfold tiD
  rw [D.toPy, D.toPy, toPyL_int, toPyL_int]
  exact toks_lt a b
theorem alike_ints : ∀ a b : List Int, PySem.W.alikeAll (a.map PyData.int) (b.map PyData.int) = true
  | [], _ => by rw [List.map_nil, PySem.W.alikeAll]
  | x :: a, [] => by rw [List.map_nil, List.map_cons, PySem.W.alikeAll]
  | x :: a, y :: b => by rw [List.map_cons, List.map_cons, PySem.W.alikeAll, alike_ints a b, PySem.W.alike]; rfl
theorem dok_int {k : Nat} {i : Int} : D.dok k (.int i) = true := by cases k <;> rfl
theorem dok_tI {k : Nat} {a : List Int} : D.dok (k + 1) (tiD a) = true := by
  unfold tiD
  rw [D.dok, List.all_eq_true]
  intro x hx
  obtain ⟨i, _, rfl⟩ := List.mem_map.mp hx
  exact dok_int
theorem alike_tI (a b : List Int) : alikeD (tiD a) (tiD b) = true := by
  unfold alikeD
  have : PySem.W.alike (D.toPy (tiD a)) (D.toPy (tiD b)) = true := by
    unfold tiD
    rw [D.toPy, D.toPy, toPyL_int, toPyL_int, PySem.W.alike]
    exact alike_ints a b
  rw [this, dok_tI, dok_tI]
  simp [tiD]
theorem alike_int (a b : Int) : alikeD (.int a) (.int b) = true := by
  unfold alikeD
  rw [dok_int, dok_int]
  simp [D.toPy, PySem.W.alike]
theorem sort_map {α : Type} {f : α → D} {le : α → α → Bool} {ks : List α} {G : Hpp} (ha : ∀ a ∈ ks, ∀ b ∈ ks, alikeD (f a) (f b) = true) (hn : ∀ a ∈ ks, f a ≠ .tup []) (hl : ∀ a b, leD (f a) (f b) = le a b) : seqC .sorted (ks.map f) G = .ok (.newL ((ks.mergeSort le).map f)) G := by
  have h : sortOk (ks.map f) = true := by
    unfold sortOk alikeAllD
    simp only [Bool.and_eq_true, List.all_eq_true, List.mem_map]
    refine ⟨?_, ?_⟩
    · rintro x ⟨a, ha', rfl⟩ y ⟨b, hb', rfl⟩
      exact ha a ha' b hb'
    · rintro x ⟨a, ha', rfl⟩
      have := hn a ha'
      split
      · rename_i e; exact absurd e this
      · rfl
  show (if sortOk (ks.map f) = true then Res.ok (R.newL ((ks.map f).mergeSort leD)) G else .bad) = _
  rw [if_pos h, List.map_mergeSort (s := leD) fun a _ b _ => (hl a b).symm]
def leI (a b : Int) : Bool := decide (a ≤ b)
def leT (a b : List Int) : Bool := !decide (b < a)
theorem sort_int {ks : List Int} {G : Hpp} : seqC .sorted (ks.map D.int) G = .ok (.newL ((ks.mergeSort leI).map .int)) G :=
  sort_map (fun a _ b _ => alike_int a b) (fun a _ h => by cases h) fun a b => by
    unfold leD leI
    rw [ltD_int]
    by_cases h : b < a
    · rw [decide_eq_true h, decide_eq_false (by omega)]; rfl
    · rw [decide_eq_false h, decide_eq_true (by omega)]; rfl
theorem sort_tI {ks : List (List Int)} {G : Hpp} (h : ∀ k ∈ ks, k ≠ []) : seqC .sorted (ks.map tiD) G = .ok (.newL ((ks.mergeSort leT).map tiD)) G :=
  sort_map (fun a _ b _ => alike_tI a b) (fun a ha e => h a ha (by
    unfold tiD at e
    injection e with e
    exact List.map_eq_nil_iff.mp e)) fun a b => by
    unfold leD leT
    rw [ltD_tI]
theorem asc_of {α : Type} [DecidableEq α] {le : α → α → Bool} {lt : α → α → Prop} (tr : ∀ a b c, le a b = true → le b c = true → le a c = true) (to : ∀ a b, (le a b || le b a) = true) (st : ∀ a b, le a b = true → a ≠ b → lt a b) {ks : List α} (nd : ks.Nodup) : (ks.mergeSort le).Pairwise lt := by
  have p := List.pairwise_mergeSort tr to ks
  have n : (ks.mergeSort le).Nodup := (List.mergeSort_perm ks le).nodup_iff.mpr nd
  exact (p.and n).imp fun h => st _ _ h.1 h.2
theorem asc_int {ks : List Int} (nd : ks.Nodup) : (ks.mergeSort leI).Pairwise (· < ·) :=
  asc_of (fun a b c h1 h2 => by simp only [leI, decide_eq_true_eq] at *; omega) (fun a b => by simp only [leI, Bool.or_eq_true, decide_eq_true_eq]; omega) (fun a b h1 h2 => by simp only [leI, decide_eq_true_eq] at h1; omega) nd
theorem asc_tI {ks : List (List Int)} (nd : ks.Nodup) : (ks.mergeSort leT).Pairwise (· < ·) :=
  asc_of (fun a b c h1 h2 => by
      simp only [leT, Bool.not_eq_true', decide_eq_false_iff_not] at *
      exact fun h => (List.le_trans (show a ≤ b from h1) (show b ≤ c from h2)) h)
    (fun a b => by
      simp only [leT, Bool.or_eq_true, Bool.not_eq_true', decide_eq_false_iff_not]
      by_cases h : b < a
      · exact .inr (List.lt_asymm h)
      · exact .inl h)
    (fun a b h1 h2 => by
      simp only [leT, Bool.not_eq_true', decide_eq_false_iff_not] at h1
      by_cases h : a < b
      · exact h
      · exact absurd (List.le_antisymm (show a ≤ b from h1) (show b ≤ a from h)) h2) nd
theorem mem_sort {α : Type} {le : α → α → Bool} {ks : List α} {t : α} : t ∈ ks.mergeSort le ↔ t ∈ ks := List.mem_mergeSort
theorem asym_tI (a b : List Int) (h : a < b) (h' : b < a) : False := List.lt_asymm h h'
theorem asym_int (a b : Int) (h : a < b) (h' : b < a) : False := by omega
end LK

set_option Elab.async false
set_option linter.all false
set_option autoImplicit false
set_option maxRecDepth 100000
/-! LkWhile: while, by a measure. -/
namespace LK
open PySem
theorem while_wp {c : Env → Hpp → Res R} {f : Env → Hpp → Fl} {nx bk ct : Env → Hpp → Prop} {rt : D → Hpp → Prop} (I : Nat → Env → Hpp → Prop)
    (hs : ∀ m ρ G, I m ρ G → (c ρ G).wp fun x G1 => Bif x ((f ρ G1).wp (fun ρ G => ∃ m', m' < m ∧ I m' ρ G) nx (fun ρ G => ∃ m', m' < m ∧ I m' ρ G) rt) (nx ρ G1)) :
    ∀ (n m : Nat) (ρ : Env) (G : Hpp), m < n → I m ρ G → (whileF c f n ρ G).wp nx bk ct rt
  | 0, _, _, _, h, _ => by omega
  | n + 1, m, ρ, G, hn, h => by
    have q := hs m ρ G h
    rw [whileF]
    cases e : c ρ G with
    | ok x G1 =>
      rw [e, wp_ok] at q
      cases x with
      | val d =>
        cases d with
        | bl t =>
          cases t with
          | false => exact q
          | true =>
            have q : (f ρ G1).wp (fun ρ G => ∃ m', m' < m ∧ I m' ρ G) nx (fun ρ G => ∃ m', m' < m ∧ I m' ρ G) rt := q
            dsimp only
            cases e2 : f ρ G1 with
            | nx ρ1 G2 => rw [e2] at q; obtain ⟨m', hm, hI⟩ := q; exact while_wp I hs n m' ρ1 G2 (by omega) hI
            | ct ρ1 G2 => rw [e2] at q; obtain ⟨m', hm, hI⟩ := q; exact while_wp I hs n m' ρ1 G2 (by omega) hI
            | bk ρ1 G2 => rw [e2] at q; exact q
            | rt d G2 => rw [e2] at q; exact q
            | ex _ _ _ _ => rw [e2] at q; exact q
            | bad => rw [e2] at q; exact q
        | _ => exact q.elim
      | _ => exact q.elim
    | ex _ _ _ => rw [e] at q; exact q.elim
    | bad => rw [e] at q; exact q.elim
end LK

set_option Elab.async false
set_option linter.all false
set_option autoImplicit false
set_option maxRecDepth 100000
set_option maxHeartbeats 1000000
/-! PkCore: the language once more, with lists as values, without a heap; draws are any number. -/
namespace LK
open PySem
mutual
/-- data without lists -/
def D.fl : D → Bool
  | .non => true | .bl _ => true | .int _ => true | .str _ => true
  | .tup xs => D.flL xs
  | .ref _ => false | .frl _ => false
def D.flL : List D → Bool
  | [] => true
  | x :: xs => D.fl x && D.flL xs
end
/-- fz: shared, not written any more; ow: a list or a dict of flat data that this name alone holds; ns: a tree of lists that this name alone holds -/
inductive Tag where
  | fz | ow | ns
  deriving DecidableEq
abbrev PEnv := List (Option (Tag × R))
abbrev XP := Str → D → Prop
abbrev CallP := Str → List R → (R → Prop) → XP → Prop
def toR : D → R
  | .frl ds => .newL ds
  | .non => .val .non | .bl b => .val (.bl b) | .int i => .val (.int i) | .str s => .val (.str s) | .tup xs => .val (.tup xs) | .ref n => .val (.ref n)
def pd (x : R) (Q : D → Prop) : Prop := match x with
  | .val d => Q d
  | .newL ds => Q (.frl ds)
  | _ => False
def R.flat : R → Bool
  | .val d => d.fl
  | .newL ds => D.flL ds
  | .newD _ kvs => D.flL (kvs.map (·.1)) && D.flL (kvs.map (·.2))
  | .newS _ => false
def plook (ρ : PEnv) (a : E) (k : (R → Prop) → Prop) (Q : R → Prop) : Prop := match a with
  | .var i => match ρ[i]? with
    | some (some (.fz, r)) => Q r
    | some (some (.ow, r)) => Q r
    | _ => False
  | _ => k Q
def E.isVar : E → Bool
  | .var _ => true
  | _ => false
def cmpP (vb : Bool) (op : Cop) (x y : R) : Option Bool :=
  match y with
  | .newD t kvs => match x, op, vb with
    | .val d, .isin, true => if keyFor t d = true then some (dfind kvs d).isSome else none
    | .val d, .notin, true => if keyFor t d = true then some (!(dfind kvs d).isSome) else none
    | _, _, _ => none
  | y => cmpR op x y []
def idxP (vb : Bool) (x y : R) : Option D :=
  match x, y with
  | .newD t kvs, .val k => if (vb && keyFor t k) = true then dfind kvs k else none
  | .newS ds, .val (.int i) => L2.atI ds i
  | x, .val (.int i) => match seqOf x [] with
    | some ds => L2.atI ds i
    | none => none
  | _, _ => none
def lenP (x : R) : Option Int :=
  match x with
  | .newS ds => some ds.length
  | .newL ds => some ds.length
  | .val (.tup ds) => some ds.length
  | .val (.str s) => if s.length ≤ LIM then some s.length else none
  | _ => none
def itemsP (x : R) : Option (List D) :=
  match x with
  | .val (.tup ds) => some ds
  | .newL ds => some ds
  | .newS ds => some ds
  | _ => none
def psets : PEnv → List Nat → List D → Option PEnv
  | ρ, [], [] => some ρ
  | ρ, i :: is, d :: ds => psets (ρ.set i (some (.fz, toR d))) is ds
  | _, _, _ => none
def pbind (tg : Tg) (r : R) (ρ : PEnv) (Q : PEnv → Prop) : Prop := match tg with
  | .one i => Q (ρ.set i (some (.fz, r)))
  | .many is => match r with
    | .val (.tup ds) => (match psets ρ is ds with
      | some ρ1 => Q ρ1
      | none => False)
    | _ => False
def pcomp (f : D → (Option D → Prop) → Prop) : List D → List D → (List D → Prop) → Prop
  | [], acc, Q => Q acc
  | d :: ds, acc, Q => f d fun o => match o with
    | some x => pcomp f ds (acc ++ [x]) Q
    | none => pcomp f ds acc Q
def pdcomp (f : D → (Option (D × D) → Prop) → Prop) : List D → List (D × D) → (List (D × D) → Prop) → Prop
  | [], acc, Q => Q acc
  | d :: ds, acc, Q => f d fun o => match o with
    | some (k, v) => (keyFor false k = true ∧ acc.length < LIM) ∧ pdcomp f ds (dput acc k v) Q
    | none => pdcomp f ds acc Q
def ppart (e : E) (k : (R → Prop) → Prop) (Q : Option Int → Prop) : Prop := match e with
  | .non => Q none
  | _ => k fun r => match r with
    | .val (.int i) => Q (some i)
    | _ => False
def noX : XP := fun _ _ => False
section
variable (C : CallP) (Γ : Str → Option D)
mutual
def pe : E → PEnv → (R → Prop) → XP → Prop
  | .int i, _, Q, _ => Q (.val (.int i))
  | .bl b, _, Q, _ => Q (.val (.bl b))
  | .non, _, Q, _ => Q (.val .non)
  | .str s, _, Q, _ => Q (.val (.str s))
  | .var i, ρ, Q, _ => match ρ[i]? with
    | some (some (.fz, r)) => Q r
    | _ => False
  | .glob x, _, Q, _ => match Γ x with
    | some d => Q (.val d)
    | none => False
  | .tup es, ρ, Q, X => pes es ρ (fun ds => Q (.val (.tup ds))) X
  | .lst es, ρ, Q, X => pes es ρ (fun ds => Q (.newL ds)) X
  | .dnew t, _, Q, _ => Q (.newD t [])
  | .bin op a b, ρ, Q, X => plook ρ a (fun Q => pe a ρ Q X) fun x => plook ρ b (fun Q => pe b ρ Q X) fun y => (binR op x y []).wp fun z _ => Q z
  | .neg a, ρ, Q, X => pe a ρ (fun x => match x with
    | .val (.int i) => Q (.val (.int (-i)))
    | _ => False) X
  | .cmp op a b, ρ, Q, X => plook ρ a (fun Q => pe a ρ Q X) fun x => plook ρ b (fun Q => pe b ρ Q X) fun y => match cmpP b.isVar op x y with
    | some t => Q (.val (.bl t))
    | none => False
  | .chain o p a b c, ρ, Q, X => pe a ρ (fun x => pe b ρ (fun y => match cmpP false o x y with
    | some true => pe c ρ (fun z => match cmpP false p y z with
      | some t => Q (.val (.bl t))
      | none => False) X
    | some false => Q (.val (.bl false))
    | none => False) X) X
  | .and a b, ρ, Q, X => pe a ρ (fun x => Bif x (pe b ρ Q X) (Q (.val (.bl false)))) X
  | .or a b, ρ, Q, X => pe a ρ (fun x => Bif x (Q (.val (.bl true))) (pe b ρ Q X)) X
  | .not a, ρ, Q, X => pe a ρ (fun x => Bif x (Q (.val (.bl false))) (Q (.val (.bl true)))) X
  | .ite c a b, ρ, Q, X => pe c ρ (fun x => Bif x (pe a ρ Q X) (pe b ρ Q X)) X
  | .idx a i, ρ, Q, X => plook ρ a (fun Q => pe a ρ Q X) fun x => pe i ρ (fun y => match idxP a.isVar x y with
    | some d => Q (toR d)
    | none => False) X
  | .slc a lo hi, ρ, Q, X => plook ρ a (fun Q => pe a ρ Q X) fun x => ppart lo (fun Q => pe lo ρ Q X) fun l => ppart hi (fun Q => pe hi ρ Q X) fun h => (cutR x l h []).wp fun z _ => Q z
  | .call f es ks dd, ρ, Q, X => pers es ρ (fun rs => pers ks ρ (fun zs => D.flL dd = true ∧ C f (rs ++ zs ++ dd.map .val) Q X) X) X
  | .len a, ρ, Q, X => plook ρ a (fun Q => pe a ρ Q X) fun x => match lenP x with
    | some n => Q (.val (.int n))
    | none => False
  | .abs a, ρ, Q, X => pe a ρ (fun x => match x with
    | .val (.int i) => Q (.val (.int (if i < 0 then -i else i)))
    | _ => False) X
  | .int1 a, ρ, Q, X => pe a ρ (fun x => match x with
    | .val (.int i) => Q (.val (.int i))
    | .val (.bl b) => Q (.val (.int (if b then 1 else 0)))
    | _ => False) X
  | .min2 a b, ρ, Q, X => pe a ρ (fun x => pe b ρ (fun y => match x, y with
    | .val (.int i), .val (.int j) => Q (.val (.int (if j < i then j else i)))
    | _, _ => False) X) X
  | .max2 a b, ρ, Q, X => pe a ρ (fun x => pe b ρ (fun y => match x, y with
    | .val (.int i), .val (.int j) => Q (.val (.int (if j > i then j else i)))
    | _, _ => False) X) X
  | .isi a t, ρ, Q, X => plook ρ a (fun Q => pe a ρ Q X) fun x => match isiR x t [] with
    | some b => Q (.val (.bl b))
    | none => False
  | .seq b a, ρ, Q, X => plook ρ a (fun Q => pe a ρ Q X) fun x => (seqR b x []).wp fun z _ => Q z
  | .lrng a b, ρ, Q, X => pe a ρ (fun x => pe b ρ (fun y => match x, y with
    | .val (.int i), .val (.int j) => ((-(LIM : Int) ≤ i ∧ i ≤ LIM) ∧ -(LIM : Int) ≤ j ∧ j ≤ LIM) ∧ Q (.newL ((List.range (j - i).toNat).map fun (k : Nat) => .int (i + k)))
    | _, _ => False) X) X
  | .comp e tg i ifs, ρ, Q, X => pi true i ρ (fun ds => ds.length ≤ LIM ∧ pcomp (fun d k => pbind tg (toR d) ρ fun ρ1 => pifs ifs ρ1 (fun t => if t = true then pe e ρ1 (fun x => pd x fun d => k (some d)) noX else k none)) ds [] fun ds => Q (.newL ds)) X
  | .dcomp _ ke e tg i ifs, ρ, Q, X => pi true i ρ (fun ds => pdcomp (fun d k => pbind tg (toR d) ρ fun ρ1 => pifs ifs ρ1 (fun t => if t = true then pe ke ρ1 (fun x => pd x fun d => pe e ρ1 (fun y => pd y fun z => k (some (d, z))) noX) noX else k none)) ds [] fun kvs => Q (.newD false kvs)) X
  | .meth0 _ _, _, _, _ => False
  | .meth1 _ _ _, _, _, _ => False
def pes : Es → PEnv → (List D → Prop) → XP → Prop
  | .nil, _, Q, _ => Q []
  | .cons e r, ρ, Q, X => pe e ρ (fun x => pd x fun d => pes r ρ (fun ds => Q (d :: ds)) X) X
/-- a call's arguments -/
def pers : Es → PEnv → (List R → Prop) → XP → Prop
  | .nil, _, Q, _ => Q []
  | .cons e r, ρ, Q, X => pe e ρ (fun x => pers r ρ (fun ds => Q (x :: ds)) X) X
def pifs : Es → PEnv → (Bool → Prop) → Prop
  | .nil, _, Q => Q true
  | .cons e r, ρ, Q => pe e ρ (fun x => Bif x (pifs r ρ Q) (Q false)) noX
def pi : Bool → I → PEnv → (List D → Prop) → XP → Prop
  | lk, .ex e, ρ, Q, X => (if lk = true then plook ρ e (fun Q => pe e ρ Q X) else fun Q => pe e ρ Q X) fun x => match itemsP x with
    | some ds => Q ds
    | none => False
  | _, .rng1 a, ρ, Q, X => pe a ρ (fun x => match x with
    | .val (.int j) => (-(LIM : Int) ≤ j ∧ j ≤ LIM) ∧ Q ((List.range j.toNat).map fun (k : Nat) => .int k)
    | _ => False) X
  | _, .rng2 a b, ρ, Q, X => pe a ρ (fun x => pe b ρ (fun y => match x, y with
    | .val (.int i), .val (.int j) => ((-(LIM : Int) ≤ i ∧ i ≤ LIM) ∧ -(LIM : Int) ≤ j ∧ j ≤ LIM) ∧ Q ((List.range (j - i).toNat).map fun (k : Nat) => .int (i + k))
    | _, _ => False) X) X
  | lk, .enum e, ρ, Q, X => (if lk = true then plook ρ e (fun Q => pe e ρ Q X) else fun Q => pe e ρ Q X) fun x => match itemsP x with
    | some ds => Q (ds.zipIdx.map fun p => .tup [.int p.2, p.1])
    | none => False
  | lk, .zip a b, ρ, Q, X => (if lk = true then plook ρ a (fun Q => pe a ρ Q X) else fun Q => pe a ρ Q X) fun x => (if lk = true then plook ρ b (fun Q => pe b ρ Q X) else fun Q => pe b ρ Q X) fun y => x.isTup = y.isTup ∧ match itemsP x, itemsP y with
    | some ds, some es => Q ((ds.zip es).map fun p => .tup [p.1, p.2])
    | _, _ => False
  | _, .items _, _, _, _ => False
end
end
/-! ### statements -/
mutual
inductive PS where
  | set (i : Nat) (e : E) | setM (i : Nat) (e : E) | setT (js : List Nat) (e : E) | setD (ts : List Bool) (js : List Nat) (es : Es)
  | putI (m : Nat) (i e : E) | aug (i : Nat) (op : Bop) (e : E)
  | app (m : Nat) (e : E) | ext (m : Nat) (e : E) | rem (m : Nat) (e : E)
  | popS (i m : Nat) (a : E) | popL (i m : Nat) | popA (f m : Nat) (a : E)
  | expr (e : E) | ret (e : E) | retN
  | ite (c : E) (a b : PSs) | whl (k : List Nat) (c : E) (b : PSs) | for_ (k : List Nat) (tg : Tg) (i : I) (b : PSs)
  | brk | cnt | pass | never
inductive PSs where
  | nil | cons (js : List Nat) (s : PS) (r : PSs)
end
mutual
def PS.strip : PS → S
  | .set i e => .set i e
  | .setM i e => .set i e
  | .setT js e => .setT js e
  | .setD _ js es => .setT js (.tup es)
  | .putI m i e => .setI (.var m) i e
  | .aug i op e => .aug i op e
  | .app m e => .expr (.meth1 .append (.var m) e)
  | .ext m e => .expr (.meth1 .extend (.var m) e)
  | .rem m e => .expr (.meth1 .remove (.var m) e)
  | .popS i m a => .set i (.meth1 .pop (.var m) a)
  | .popL i m => .set i (.meth0 .pop (.var m))
  | .popA f m a => .expr (.meth1 .append (.var f) (.meth1 .pop (.var m) a))
  | .expr e => .expr e
  | .ret e => .ret e
  | .retN => .retN
  | .ite c a b => .ite c a.strip b.strip
  | .whl _ c b => .whl c b.strip
  | .for_ _ tg i b => .for_ tg i b.strip
  | .brk => .brk | .cnt => .cnt | .pass => .pass | .never => .never
def PSs.strip : PSs → Ss
  | .nil => .nil
  | .cons _ s r => .cons s.strip r.strip
end
def frz1 (ρ : PEnv) (j : Nat) : PEnv := match ρ[j]? with
  | some (some (_, r)) => ρ.set j (some (.fz, r))
  | _ => ρ
def frz (js : List Nat) (ρ : PEnv) : PEnv := js.foldl frz1 ρ
def frzO (o : Option (Tag × R)) : Option (Tag × R) := match o with
  | some (_, r) => some (.fz, r)
  | none => none
def frzA (ρ : PEnv) : PEnv := ρ.map frzO
def kill (js : List Nat) (ρ : PEnv) : PEnv := js.foldl (fun ρ j => ρ.set j none) ρ
def ploop (f : D → PEnv → (PEnv → Prop) → (PEnv → Prop) → Prop) (k : List Nat) (fin : PEnv → Prop) : List D → PEnv → Prop
  | [], ρ => fin ρ
  | d :: ds, ρ => f d ρ (fun ρ' => ploop f k fin ds (kill k ρ')) fun ρ' => fin (kill k ρ')
def pwhl (c : PEnv → (R → Prop) → Prop) (f : PEnv → (PEnv → Prop) → (PEnv → Prop) → Prop) (k : List Nat) (fin : PEnv → Prop) : Nat → PEnv → Prop
  | 0, _ => False
  | n + 1, ρ => c ρ fun x => Bif x (f ρ (fun ρ' => pwhl c f k fin n (kill k ρ')) fun ρ' => fin (kill k ρ')) (fin ρ)
/-- an expression whose list or dict is new -/
def E.rf : E → Bool
  | .lst _ => true | .comp _ _ _ _ => true | .dcomp _ _ _ _ _ _ => true | .dnew _ => true | .lrng _ _ => true
  | .seq .list _ => true | .seq .sorted _ => true | .bin _ _ _ => true | .slc _ _ _ => true
  | .int _ => true | .non => true | .bl _ => true | .str _ => true
  | _ => false
def psetV : PEnv → List Bool → List Nat → List R → Option PEnv
  | ρ, [], [], [] => some ρ
  | ρ, t :: ts, i :: is, r :: rs => psetV (ρ.set i (some (if t = true then .ow else .fz, r))) ts is rs
  | _, _, _, _ => none
section
variable (C : CallP) (Γ : Str → Option D)
/-- a tuple of expressions, some of which are new lists that a name will hold alone -/
def pdis : List Bool → Es → PEnv → (List R → Prop) → XP → Prop
  | [], .nil, _, Q, _ => Q []
  | t :: ts, .cons e r, ρ, Q, X => pe C Γ e ρ (fun x => (if t = true then E.rf e && x.flat else true) = true ∧ pdis ts r ρ (fun rs => Q (x :: rs)) X) X
  | _, _, _, _, _ => False
mutual
def ps : PS → PEnv → (nx bk ct : PEnv → Prop) → (rt : R → Prop) → (X : Str → D → PEnv → Prop) → Prop
  | .set i e, ρ, nx, _, _, _, X => pe C Γ e ρ (fun r => nx (ρ.set i (some (.fz, r)))) fun c d => X c d ρ
  | .setM i e, ρ, nx, _, _, _, X => pe C Γ e ρ (fun r => (E.rf e && r.flat) = true ∧ nx (ρ.set i (some (.ow, r)))) fun c d => X c d ρ
  | .setT js e, ρ, nx, _, _, _, X => pe C Γ e ρ (fun r => match r with
    | .val (.tup ds) => (match psets ρ js ds with
      | some ρ1 => nx ρ1
      | none => False)
    | _ => False) fun c d => X c d ρ
  | .setD ts js es, ρ, nx, _, _, _, X => pdis C Γ ts es ρ (fun rs => match psetV ρ ts js rs with
      | some ρ1 => nx ρ1
      | none => False) fun c d => X c d ρ
  | .putI m i e, ρ, nx, _, _, _, X => match ρ[m]? with
    | some (some (.ow, .newD t kvs)) => pe C Γ e ρ (fun r => pd r fun v => pe C Γ i ρ (fun y => match y with
      | .val k => ((v.fl = true ∧ k.fl = true) ∧ keyFor t k = true ∧ kvs.length < LIM) ∧ nx (ρ.set m (some (.ow, .newD t (dput kvs k v))))
      | _ => False) fun c d => X c d ρ) fun c d => X c d ρ
    | some (some (.ow, .newL ds)) => pe C Γ e ρ (fun r => pd r fun v => pe C Γ i ρ (fun y => match y with
      | .val (.int j) => v.fl = true ∧ (match L2.ixN ds.length j with
        | some n => nx (ρ.set m (some (.ow, .newL (ds.set n v))))
        | none => False)
      | _ => False) fun c d => X c d ρ) fun c d => X c d ρ
    | _ => False
  | .aug i op e, ρ, nx, _, _, _, X => match ρ[i]? with
    | some (some (.fz, .val (.int a))) => pe C Γ e ρ (fun y => match y with
      | .val (.int b) => (binI op a b []).wp fun z _ => nx (ρ.set i (some (.fz, z)))
      | _ => False) fun c d => X c d ρ
    | _ => False
  | .app m e, ρ, nx, _, _, _, X => match ρ[m]? with
    | some (some (.ow, .newL ds)) => pe C Γ e ρ (fun x => match x with
      | .val d => (d.fl = true ∧ ds.length < LIM) ∧ nx (ρ.set m (some (.ow, .newL (ds ++ [d]))))
      | _ => False) fun c d => X c d ρ
    | _ => False
  | .ext m e, ρ, nx, _, _, _, X => match ρ[m]? with
    | some (some (.ow, .newL ds)) => plook ρ e (fun Q => pe C Γ e ρ Q fun c d => X c d ρ) fun x => match x with
      | .newL xs => (D.flL xs = true ∧ ds.length + xs.length ≤ LIM) ∧ nx (ρ.set m (some (.ow, .newL (ds ++ xs))))
      | _ => False
    | _ => False
  | .rem m e, ρ, nx, _, _, _, X => match ρ[m]? with
    | some (some (.ow, .newL ds)) => pe C Γ e ρ (fun x => match x with
      | .val d => (D.dok 60 d && ds.all (D.dok 60)) = true ∧ (match ds.findIdx? (fun z => D.eqv z d) with
        | some j => nx (ρ.set m (some (.ow, .newL (ds.eraseIdx j))))
        | none => False)
      | _ => False) fun c d => X c d ρ
    | _ => False
  | .popS i m a, ρ, nx, _, _, _, X => match ρ[m]? with
    | some (some (.ow, .newL ds)) => pe C Γ a ρ (fun x => match x with
      | .val (.int k) => (match L2.ixN ds.length k with
        | some j => (match ds[j]? with
          | some d => nx ((ρ.set m (some (.ow, .newL (ds.eraseIdx j)))).set i (some (.fz, .val d)))
          | none => False)
        | none => False)
      | _ => False) fun c d => X c d ρ
    | _ => False
  | .popL i m, ρ, nx, _, _, _, X => match ρ[m]? with
    | some (some (.ow, .newL ds)) => (match ds.getLast? with
      | some d => nx ((ρ.set m (some (.ow, .newL ds.dropLast))).set i (some (.fz, .val d)))
      | none => False)
    | _ => False
  | .popA f m a, ρ, nx, _, _, _, X => match ρ[f]?, ρ[m]? with
    | some (some (.ow, .newL fs)), some (some (.ow, .newL ds)) => pe C Γ a ρ (fun x => match x with
      | .val (.int k) => (f ≠ m ∧ fs.length < LIM) ∧ (match L2.ixN ds.length k with
        | some j => (match ds[j]? with
          | some d => nx ((ρ.set m (some (.ow, .newL (ds.eraseIdx j)))).set f (some (.ow, .newL (fs ++ [d]))))
          | none => False)
        | none => False)
      | _ => False) fun c d => X c d ρ
    | _, _ => False
  | .expr e, ρ, nx, _, _, _, X => pe C Γ e ρ (fun _ => nx ρ) fun c d => X c d ρ
  | .ret e, ρ, _, _, _, rt, X => pe C Γ e (frzA ρ) rt fun c d => X c d (frzA ρ)
  | .retN, _, _, _, _, rt, _ => rt (.val .non)
  | .ite c a b, ρ, nx, bk, ct, rt, X => pe C Γ c ρ (fun x => Bif x (pss a ρ nx bk ct rt X) (pss b ρ nx bk ct rt X)) fun c d => X c d ρ
  | .whl k c b, ρ, nx, _, _, rt, X => pwhl (fun ρ Q => pe C Γ c ρ Q fun c d => X c d ρ) (fun ρ nx bk => pss b ρ nx bk nx rt X) k nx WF (kill k ρ)
  | .for_ k tg i b, ρ, nx, _, _, rt, X => pi C Γ false i ρ (fun ds => ploop (fun d ρ nx bk => pbind tg (toR d) ρ fun ρ1 => pss b ρ1 nx bk nx rt X) k nx ds (kill k ρ)) fun c d => X c d ρ
  | .brk, ρ, _, bk, _, _, _ => bk ρ
  | .cnt, ρ, _, _, ct, _, _ => ct ρ
  | .pass, ρ, nx, _, _, _, _ => nx ρ
  | .never, _, _, _, _, _, _ => False
def pss : PSs → PEnv → (nx bk ct : PEnv → Prop) → (rt : R → Prop) → (X : Str → D → PEnv → Prop) → Prop
  | .nil, ρ, nx, _, _, _, _ => nx ρ
  | .cons js s r, ρ, nx, bk, ct, rt, X => ps s (frz js ρ) (fun ρ1 => pss r ρ1 nx bk ct rt X) bk ct rt X
end
end
structure PFn where
  np : Nat
  ns : Nat
  body : PSs
def PFn.strip (p : PFn) : FnDef := ⟨p.np, p.ns, p.body.strip⟩
abbrev PTab := Str → Option PFn
def ptake (args : List R) (Q : R → Prop) : Prop := match args with
  | [.val (.ref 0), .val (.int m)] => (0 < m ∧ m < 1073741824) ∧ ∀ i : Int, 0 ≤ i → i < m → Q (.val (.int i))
  | _ => False
def pbox (args : List R) (Q : R → Prop) : Prop := match args with
  | [.newS ds, .val (.int k)] => (∃ ns : List Int, ds = ns.map .int ∧ ns.length ≤ 63) ∧ (0 ≤ k ∧ k < 1000) ∧ Q (.val (.ref 0))
  | _ => False
def callP (T : PTab) (Γ : Str → Option D) : Nat → CallP
  | 0 => fun _ _ _ _ => False
  | n + 1 => fun f args Q X => if f = "_law_take" then ptake args Q else if f = "_law_box" then pbox args Q else match T f with
    | none => False
    | some fd => args.length = fd.np ∧ pss (callP T Γ n) Γ fd.body (args.map (fun r => some (.fz, r)) ++ List.replicate (fd.ns - fd.np) none) (fun _ => Q (.val .non)) (fun _ => False) (fun _ => False) Q (fun c d _ => X c d)
end LK

set_option Elab.async false
set_option linter.all false
set_option autoImplicit false
set_option maxRecDepth 100000
set_option maxHeartbeats 1000000
/-! PkRel: how values lie in the heap. -/
namespace LK
open PySem
/-- a heap; A: the lists and dicts that are not written any more; B: the boxes -/
structure Hs where
  A : Nat → Prop
  B : Nat → Prop
  G : Hpp
mutual
def Rl (S : Hs) : D → D → Prop
  | d, .non => d = .non
  | d, .bl b => d = .bl b
  | d, .int i => d = .int i
  | d, .str s => d = .str s
  | d, .tup vs => ∃ ds, d = .tup ds ∧ RlL S ds vs
  | d, .ref k => k = 0 ∧ ∃ n, d = .ref n ∧ S.B n
  | d, .frl vs => ∃ n ds, d = .ref n ∧ S.A n ∧ S.G[n]? = some (.lst ds) ∧ RlL S ds vs
def RlL (S : Hs) : List D → List D → Prop
  | ds, [] => ds = []
  | ds, v :: vs => ∃ d ds', ds = d :: ds' ∧ Rl S d v ∧ RlL S ds' vs
end
/-- the heap is in order -/
structure HI (S : Hs) : Prop where
  al : ∀ n, S.A n → n < S.G.length
  bx : ∀ n, S.B n → ∃ x y : Int, S.G[n]? = some (.lst [.int x, .int y])
  ab : ∀ n, S.A n → ¬ S.B n
  low : ∀ (n : Nat) (c : Cell), S.G[n]? = some c → c.low S.G.length = true
/-- what a piece of code may do: cells under N that are no boxes stay, cells of A stay -/
structure Ext (N : Nat) (S S' : Hs) : Prop where
  len : S.G.length ≤ S'.G.length
  a : ∀ n, S.A n → S'.A n
  b : ∀ n, S.B n → S'.B n
  same : ∀ n, n < N → ¬ S.B n → S'.G[n]? = S.G[n]?
  sa : ∀ n, S.A n → S'.G[n]? = S.G[n]?
  fa : ∀ n, S'.A n → S.A n ∨ N ≤ n
  fb : ∀ n, S'.B n → S.B n ∨ N ≤ n
section
variable {S S' S2 : Hs} {N : Nat}
theorem HI.bl (h : HI S) {n : Nat} (b : S.B n) : n < S.G.length := by
  obtain ⟨x, y, e⟩ := h.bx n b
  exact (List.getElem?_eq_some_iff.mp e).1
theorem Ext.refl : Ext N S S := ⟨Nat.le_refl _, fun _ h => h, fun _ h => h, fun _ _ _ => rfl, fun _ _ => rfl, fun _ h => .inl h, fun _ h => .inl h⟩
theorem Ext.weak {M : Nat} (h : Ext N S S') (hm : M ≤ N) : Ext M S S' :=
  ⟨h.len, h.a, h.b, fun n hn => h.same n (by omega), h.sa, fun n hn => (h.fa n hn).imp_right (by omega), fun n hn => (h.fb n hn).imp_right (by omega)⟩
theorem Ext.trans (h : Ext N S S') (g : Ext N S' S2) : Ext N S S2 where
  len := Nat.le_trans h.len g.len
  a := fun n q => g.a n (h.a n q)
  b := fun n q => g.b n (h.b n q)
  same := fun n hn hb => by
    rw [g.same n hn, h.same n hn hb]
    intro q
    rcases h.fb n q with q | q
    · exact hb q
    · omega
  sa := fun n q => by rw [g.sa n (h.a n q), h.sa n q]
  fa := fun n q => by
    rcases g.fa n q with q | q
    · exact h.fa n q
    · exact .inr q
  fb := fun n q => by
    rcases g.fb n q with q | q
    · exact h.fb n q
    · exact .inr q
theorem Ext.tr (h : Ext S.G.length S S') (g : Ext S'.G.length S' S2) : Ext S.G.length S S2 := h.trans (g.weak h.len)
theorem relL_len : ∀ {ds vs : List D}, RlL S ds vs → ds.length = vs.length
  | ds, [], h => by rw [RlL] at h; rw [h]
  | ds, v :: vs, h => by
    rw [RlL] at h
    obtain ⟨d, ds', rfl, _, h⟩ := h
    simp [relL_len h]
theorem relL_get : ∀ {ds vs : List D}, RlL S ds vs → ∀ {i : Nat} {v : D}, vs[i]? = some v → ∃ d, ds[i]? = some d ∧ Rl S d v
  | ds, [], h, i, v, e => by simp at e
  | ds, w :: vs, h, i, v, e => by
    rw [RlL] at h
    obtain ⟨d, ds', rfl, hd, h⟩ := h
    cases i with
    | zero => simp at e; subst e; exact ⟨d, rfl, hd⟩
    | succ i => simp at e; exact relL_get h e
theorem relL_of : ∀ {ds vs : List D}, ds.length = vs.length → (∀ (i : Nat) (d v : D), ds[i]? = some d → vs[i]? = some v → Rl S d v) → RlL S ds vs
  | ds, [], h, _ => by rw [RlL]; exact List.length_eq_zero_iff.mp h
  | [], v :: vs, h, _ => by simp at h
  | d :: ds, v :: vs, h, q => by
    rw [RlL]
    exact ⟨d, ds, rfl, q 0 d v rfl rfl, relL_of (by simpa using h) fun i x y e1 e2 => q (i + 1) x y (by simpa using e1) (by simpa using e2)⟩
theorem relL_nil : RlL S [] [] := by rw [RlL]
theorem relL_cons {d v : D} {ds vs : List D} (h : Rl S d v) (t : RlL S ds vs) : RlL S (d :: ds) (v :: vs) := by rw [RlL]; exact ⟨d, ds, rfl, h, t⟩
theorem relL_append {ds vs es ws : List D} (h : RlL S ds vs) (g : RlL S es ws) : RlL S (ds ++ es) (vs ++ ws) := by
  have h1 := relL_len h
  refine relL_of (by simp [h1, relL_len g]) fun i d v e1 e2 => ?_
  by_cases hi : i < vs.length
  · rw [List.getElem?_append_left hi] at e2
    rw [List.getElem?_append_left (by omega)] at e1
    obtain ⟨d', e3, r⟩ := relL_get h e2
    rw [e1] at e3; cases e3; exact r
  · rw [List.getElem?_append_right (by omega)] at e2
    rw [List.getElem?_append_right (by omega), h1] at e1
    obtain ⟨d', e3, r⟩ := relL_get g e2
    rw [e1] at e3; cases e3; exact r
theorem relL_sub {ds vs : List D} (h : RlL S ds vs) (k m : Nat) : RlL S ((ds.drop k).take m) ((vs.drop k).take m) := by
  have h1 := relL_len h
  refine relL_of (by simp [h1]) fun i d v e1 e2 => ?_
  rw [List.getElem?_take] at e1 e2
  split at e1
  · rename_i hm
    rw [if_pos hm, List.getElem?_drop] at e2
    rw [List.getElem?_drop] at e1
    obtain ⟨d', e3, r⟩ := relL_get h e2
    rw [e1] at e3; cases e3; exact r
  · cases e1
mutual
theorem rel_fl : ∀ {v d : D}, v.fl = true → Rl S d v → d = v
  | .non, d, _, h => by rwa [Rl] at h
  | .bl b, d, _, h => by rwa [Rl] at h
  | .int b, d, _, h => by rwa [Rl] at h
  | .str b, d, _, h => by rwa [Rl] at h
  | .tup vs, d, f, h => by
    rw [Rl] at h
    obtain ⟨ds, rfl, h⟩ := h
    rw [D.fl] at f
    rw [relL_fl f h]
  | .ref b, d, f, h => by simp [D.fl] at f
  | .frl b, d, f, h => by simp [D.fl] at f
theorem relL_fl : ∀ {vs ds : List D}, D.flL vs = true → RlL S ds vs → ds = vs
  | [], ds, _, h => by rwa [RlL] at h
  | v :: vs, ds, f, h => by
    rw [RlL] at h
    obtain ⟨d, ds', rfl, h1, h2⟩ := h
    rw [D.flL, Bool.and_eq_true] at f
    rw [rel_fl f.1 h1, relL_fl f.2 h2]
end
mutual
theorem fl_rel : ∀ {v : D}, v.fl = true → Rl S v v
  | .non, _ => by rw [Rl]
  | .bl b, _ => by rw [Rl]
  | .int b, _ => by rw [Rl]
  | .str b, _ => by rw [Rl]
  | .tup vs, f => by
    rw [Rl]
    exact ⟨vs, rfl, flL_rel (by rwa [D.fl] at f)⟩
  | .ref b, f => by simp [D.fl] at f
  | .frl b, f => by simp [D.fl] at f
theorem flL_rel : ∀ {vs : List D}, D.flL vs = true → RlL S vs vs
  | [], _ => by rw [RlL]
  | v :: vs, f => by
    rw [D.flL, Bool.and_eq_true] at f
    rw [RlL]
    exact ⟨v, vs, rfl, fl_rel f.1, flL_rel f.2⟩
end
mutual
theorem rel_mono (ha : ∀ n, S.A n → S'.A n) (hb : ∀ n, S.B n → S'.B n) (hs : ∀ n, S.A n → S'.G[n]? = S.G[n]?) : ∀ {v d : D}, Rl S d v → Rl S' d v
  | .non, d, h => by rw [Rl] at h ⊢; exact h
  | .bl b, d, h => by rw [Rl] at h ⊢; exact h
  | .int b, d, h => by rw [Rl] at h ⊢; exact h
  | .str b, d, h => by rw [Rl] at h ⊢; exact h
  | .tup vs, d, h => by
    rw [Rl] at h ⊢
    obtain ⟨ds, rfl, h⟩ := h
    exact ⟨ds, rfl, relL_mono ha hb hs h⟩
  | .ref b, d, h => by
    rw [Rl] at h ⊢
    obtain ⟨h0, n, rfl, h⟩ := h
    exact ⟨h0, n, rfl, hb n h⟩
  | .frl vs, d, h => by
    rw [Rl] at h ⊢
    obtain ⟨n, ds, rfl, h1, h2, h3⟩ := h
    exact ⟨n, ds, rfl, ha n h1, by rw [hs n h1]; exact h2, relL_mono ha hb hs h3⟩
theorem relL_mono (ha : ∀ n, S.A n → S'.A n) (hb : ∀ n, S.B n → S'.B n) (hs : ∀ n, S.A n → S'.G[n]? = S.G[n]?) : ∀ {vs ds : List D}, RlL S ds vs → RlL S' ds vs
  | [], ds, h => by rw [RlL] at h ⊢; exact h
  | v :: vs, ds, h => by
    rw [RlL] at h ⊢
    obtain ⟨d, ds', rfl, h1, h2⟩ := h
    exact ⟨d, ds', rfl, rel_mono ha hb hs h1, relL_mono ha hb hs h2⟩
end
theorem Rl.ext (e : Ext N S S') {v d : D} (h : Rl S d v) : Rl S' d v := rel_mono e.a e.b e.sa h
theorem RlL.ext (e : Ext N S S') {v d : List D} (h : RlL S d v) : RlL S' d v := relL_mono e.a e.b e.sa h
mutual
theorem rel_low (hi : HI S) : ∀ {v d : D}, Rl S d v → d.low S.G.length = true
  | .non, d, h => by rw [Rl] at h; subst h; rfl
  | .bl b, d, h => by rw [Rl] at h; subst h; rfl
  | .int b, d, h => by rw [Rl] at h; subst h; rfl
  | .str b, d, h => by rw [Rl] at h; subst h; rfl
  | .tup vs, d, h => by
    rw [Rl] at h
    obtain ⟨ds, rfl, h⟩ := h
    rw [D.low]
    exact relL_low hi h
  | .ref b, d, h => by
    rw [Rl] at h
    obtain ⟨_, n, rfl, h⟩ := h
    rw [D.low]
    exact decide_eq_true (hi.bl h)
  | .frl vs, d, h => by
    rw [Rl] at h
    obtain ⟨n, ds, rfl, h1, _⟩ := h
    rw [D.low]
    exact decide_eq_true (hi.al n h1)
theorem relL_low (hi : HI S) : ∀ {vs ds : List D}, RlL S ds vs → D.lowL S.G.length ds = true
  | [], ds, h => by rw [RlL] at h; subst h; rfl
  | v :: vs, ds, h => by
    rw [RlL] at h
    obtain ⟨d, ds', rfl, h1, h2⟩ := h
    rw [D.lowL, rel_low hi h1, relL_low hi h2]
    rfl
end
mutual
theorem low_mono {m n : Nat} (h : m ≤ n) : ∀ {d : D}, d.low m = true → d.low n = true
  | .non, _ => rfl
  | .bl _, _ => rfl
  | .int _, _ => rfl
  | .str _, _ => rfl
  | .tup xs, q => by rw [D.low] at q ⊢; exact lowL_mono h q
  | .frl xs, q => by rw [D.low] at q ⊢; exact lowL_mono h q
  | .ref k, q => by
    rw [D.low] at q ⊢
    have := of_decide_eq_true q
    exact decide_eq_true (by omega)
theorem lowL_mono {m n : Nat} (h : m ≤ n) : ∀ {d : List D}, D.lowL m d = true → D.lowL n d = true
  | [], _ => rfl
  | x :: xs, q => by
    rw [D.lowL, Bool.and_eq_true] at q ⊢
    exact ⟨low_mono h q.1, lowL_mono h q.2⟩
end
mutual
theorem fl_low {n : Nat} : ∀ {d : D}, d.fl = true → d.low n = true
  | .non, _ => rfl
  | .bl _, _ => rfl
  | .int _, _ => rfl
  | .str _, _ => rfl
  | .tup xs, q => by rw [D.fl] at q; rw [D.low]; exact flL_low q
  | .frl xs, q => by simp [D.fl] at q
  | .ref k, q => by simp [D.fl] at q
theorem flL_low {n : Nat} : ∀ {d : List D}, D.flL d = true → D.lowL n d = true
  | [], _ => rfl
  | x :: xs, q => by
    rw [D.flL, Bool.and_eq_true] at q
    rw [D.lowL, fl_low q.1, flL_low q.2]
    rfl
end
theorem flL_iff {ds : List D} : D.flL ds = true ↔ ∀ d ∈ ds, d.fl = true := by
  induction ds with
  | nil => simp [D.flL]
  | cons d ds ih => rw [D.flL, Bool.and_eq_true, ih]; simp
theorem clow_mono {m n : Nat} (h : m ≤ n) {c : Cell} (q : c.low m = true) : c.low n = true := by
  cases c with
  | lst ds => exact lowL_mono h q
  | set ds => exact lowL_mono h q
  | dct t kvs =>
    unfold Cell.low at q ⊢
    rw [List.all_eq_true] at q ⊢
    intro p hp
    have := q p hp
    rw [Bool.and_eq_true] at this ⊢
    exact ⟨low_mono h this.1, low_mono h this.2⟩
def nfD : D → Bool
  | .frl _ => false
  | _ => true
def RelK (S : Hs) (kvs' kvs : List (D × D)) : Prop := kvs'.map (·.1) = kvs.map (·.1) ∧ D.flL (kvs.map (·.1)) = true ∧ RlL S (kvs'.map (·.2)) (kvs.map (·.2))
/-- a result: what the heap's evaluation gives, what the other gives; a place that p holds of -/
def RQ (S : Hs) (p : Nat → Prop) : R → R → Prop
  | x, .val w => ∃ d, x = .val d ∧ Rl S d w ∧ nfD w = true
  | x, .newL vs => ∃ ds, RlL S ds vs ∧ (x = .newL ds ∨ ∃ n, x = .val (.ref n) ∧ p n ∧ S.G[n]? = some (.lst ds))
  | x, .newD t kvs => ∃ kvs', RelK S kvs' kvs ∧ (x = .newD t kvs' ∨ ∃ n, x = .val (.ref n) ∧ p n ∧ S.G[n]? = some (.dct t kvs'))
  | x, .newS ds => x = .val (.frl ds) ∧ D.flL ds = true
abbrev RT (S : Hs) : R → R → Prop := RQ S S.A
abbrev RX (S : Hs) : R → R → Prop := RQ S fun n => n < S.G.length ∧ ¬ S.B n
theorem RT.rx (hi : HI S) {x v : R} (h : RT S x v) : RX S x v := by
  cases v with
  | val w => exact h
  | newS ds => exact h
  | newL vs =>
    obtain ⟨ds, h1, h | ⟨n, e, h2, h3⟩⟩ := h
    · exact ⟨ds, h1, .inl h⟩
    · exact ⟨ds, h1, .inr ⟨n, e, ⟨hi.al n h2, hi.ab n h2⟩, h3⟩⟩
  | newD t kvs =>
    obtain ⟨ds, h1, h | ⟨n, e, h2, h3⟩⟩ := h
    · exact ⟨ds, h1, .inl h⟩
    · exact ⟨ds, h1, .inr ⟨n, e, ⟨hi.al n h2, hi.ab n h2⟩, h3⟩⟩
theorem RelK.ext (e : Ext N S S') {a b : List (D × D)} (h : RelK S a b) : RelK S' a b := ⟨h.1, h.2.1, h.2.2.ext e⟩
theorem RT.ext (e : Ext N S S') {x v : R} (h : RT S x v) : RT S' x v := by
  cases v with
  | val w => obtain ⟨d, h1, h2, h3⟩ := h; exact ⟨d, h1, h2.ext e, h3⟩
  | newS ds => exact h
  | newL vs =>
    obtain ⟨ds, h1, h | ⟨n, q, h2, h3⟩⟩ := h
    · exact ⟨ds, h1.ext e, .inl h⟩
    · exact ⟨ds, h1.ext e, .inr ⟨n, q, e.a n h2, by rw [e.sa n h2]; exact h3⟩⟩
  | newD t kvs =>
    obtain ⟨ds, h1, h | ⟨n, q, h2, h3⟩⟩ := h
    · exact ⟨ds, h1.ext e, .inl h⟩
    · exact ⟨ds, h1.ext e, .inr ⟨n, q, e.a n h2, by rw [e.sa n h2]; exact h3⟩⟩
theorem RX.ext (e : Ext S.G.length S S') {x v : R} (h : RX S x v) : RX S' x v := by
  have key : ∀ n, n < S.G.length ∧ ¬ S.B n → (n < S'.G.length ∧ ¬ S'.B n) ∧ S'.G[n]? = S.G[n]? := fun n q => by
    refine ⟨⟨Nat.lt_of_lt_of_le q.1 e.len, fun b => ?_⟩, e.same n q.1 q.2⟩
    rcases e.fb n b with b | b
    · exact q.2 b
    · omega
  cases v with
  | val w => obtain ⟨d, h1, h2, h3⟩ := h; exact ⟨d, h1, h2.ext e, h3⟩
  | newS ds => exact h
  | newL vs =>
    obtain ⟨ds, h1, h | ⟨n, q, h2, h3⟩⟩ := h
    · exact ⟨ds, h1.ext e, .inl h⟩
    · exact ⟨ds, h1.ext e, .inr ⟨n, q, (key n h2).1, by rw [(key n h2).2]; exact h3⟩⟩
  | newD t kvs =>
    obtain ⟨ds, h1, h | ⟨n, q, h2, h3⟩⟩ := h
    · exact ⟨ds, h1.ext e, .inl h⟩
    · exact ⟨ds, h1.ext e, .inr ⟨n, q, (key n h2).1, by rw [(key n h2).2]; exact h3⟩⟩
theorem rt_flat {d : D} (h : d.fl = true) : RT S (.val d) (.val d) := ⟨d, rfl, fl_rel h, by cases d <;> first | rfl | simp [D.fl] at h⟩
/-- an item of a list, read -/
theorem rt_toR {d v : D} (h : Rl S d v) : RT S (.val d) (toR v) := by
  cases v with
  | frl vs =>
    rw [Rl] at h
    obtain ⟨n, ds, rfl, h1, h2, h3⟩ := h
    exact ⟨ds, h3, .inr ⟨n, rfl, h1, h2⟩⟩
  | _ => exact ⟨d, rfl, h, rfl⟩
/-! ### names -/
/-- a list or a dict that a name alone holds -/
def Ow (S : Hs) (n : Nat) : R → Prop
  | .newL vs => S.G[n]? = some (.lst vs) ∧ D.flL vs = true
  | .newD t kvs => S.G[n]? = some (.dct t kvs) ∧ D.flL (kvs.map (·.1)) = true ∧ D.flL (kvs.map (·.2)) = true
  | _ => False
structure Inv (N : Nat) (S : Hs) (ρ : PEnv) (σ : Env) : Prop where
  len : σ.length = ρ.length
  fz : ∀ (i : Nat) (r : R), ρ[i]? = some (some (.fz, r)) → ∃ d, σ[i]? = some (some d) ∧ RT S (.val d) r
  ow : ∀ (i : Nat) (r : R), ρ[i]? = some (some (.ow, r)) → (∃ d, r = .val d ∧ d.fl = true ∧ σ[i]? = some (some d)) ∨ ∃ n, σ[i]? = some (some (.ref n)) ∧ (N ≤ n ∧ n < S.G.length ∧ ¬ S.A n ∧ ¬ S.B n) ∧ Ow S n r
  ns : ∀ (i : Nat) (r : R), ρ[i]? ≠ some (some (.ns, r))
  dj : ∀ (i j : Nat) (r q : R) (n m : Nat), i ≠ j → ρ[i]? = some (some (.ow, r)) → ρ[j]? = some (some (.ow, q)) → σ[i]? = some (some (.ref n)) → σ[j]? = some (some (.ref m)) → n ≠ m
theorem Inv.ext {ρ : PEnv} {σ : Env} (h : Inv N S ρ σ) (hN : N ≤ S.G.length) (e : Ext S.G.length S S') : Inv N S' ρ σ where
  len := h.len
  fz := fun i r q => by
    obtain ⟨d, h1, h2⟩ := h.fz i r q
    exact ⟨d, h1, RT.ext e h2⟩
  ow := fun i r q => by
    rcases h.ow i r q with h1 | ⟨n, h1, ⟨h2, h3, h4, h5⟩, h6⟩
    · exact .inl h1
    refine .inr ⟨n, h1, ⟨h2, Nat.lt_of_lt_of_le h3 e.len, fun a => ?_, fun b => ?_⟩, ?_⟩
    · rcases e.fa n a with a | a
      · exact h4 a
      · omega
    · rcases e.fb n b with a | a
      · exact h5 a
      · omega
    · have := e.same n h3 h5
      cases r <;> simp only [Ow] at h6 ⊢ <;> first | exact h6 | (rw [this]; exact h6)
  ns := h.ns
  dj := h.dj
end
end LK

set_option Elab.async false
set_option linter.all false
set_option autoImplicit false
set_option maxRecDepth 100000
set_option maxHeartbeats 1000000
/-! PkOp: the operations. -/
namespace LK
open PySem
theorem dok_fl : ∀ (k : Nat) (a : D), D.dok k a = true → a.fl = true
  | k, .non, _ => rfl
  | k, .bl _, _ => rfl
  | k, .int _, _ => rfl
  | k, .str _, _ => rfl
  | 0, .tup xs, h => by simp [D.dok] at h
  | k + 1, .tup xs, h => by
    rw [D.dok, List.all_eq_true] at h
    rw [D.fl, flL_iff]
    exact fun d hd => dok_fl k d (h d hd)
  | k, .ref _, h => by simp [D.dok] at h
  | k, .frl _, h => by simp [D.dok] at h
theorem doks_fl {k : Nat} {ds : List D} (h : ds.all (D.dok k) = true) : D.flL ds = true := by
  rw [flL_iff]
  rw [List.all_eq_true] at h
  exact fun d hd => dok_fl k d (h d hd)
theorem kok_fl : ∀ (k : Nat) (a : D), D.kok k a = true → a.fl = true
  | k, .non, _ => rfl
  | k, .bl _, _ => rfl
  | k, .int _, _ => rfl
  | k, .str _, _ => rfl
  | 0, .tup xs, h => by simp [D.kok] at h
  | k + 1, .tup xs, h => by
    rw [D.kok, List.all_eq_true] at h
    rw [D.fl, flL_iff]
    exact fun d hd => kok_fl k d (h d hd)
  | k, .ref _, h => by cases k <;> simp [D.kok] at h
  | k, .frl _, h => by cases k <;> simp [D.kok] at h
theorem key_fl {t : Bool} {k : D} (h : keyFor t k = true) : k.fl = true := by
  unfold keyFor at h
  rw [Bool.and_eq_true] at h
  exact kok_fl 8 k h.1
theorem alike_fl {a b : D} (h : alikeD a b = true) : a.fl = true ∧ b.fl = true := by
  unfold alikeD at h
  simp only [Bool.and_eq_true] at h
  exact ⟨dok_fl 60 a h.1.1.1, dok_fl 60 b h.1.1.2⟩
theorem alikes_fl {ds : List D} (h : alikeAllD ds = true) : D.flL ds = true := by
  rw [flL_iff]
  unfold alikeAllD at h
  rw [List.all_eq_true] at h
  intro d hd
  have := h d hd
  rw [List.all_eq_true] at this
  exact (alike_fl (this d hd)).1
section
variable {S : Hs} {x y v w : R}
theorem rx_l {vs : List D} (h : RX S x (.newL vs)) : ∃ ds, RlL S ds vs ∧ lstM x S.G = some ds ∧ lstOf x S.G = some ds ∧ seqOf x S.G = some ds ∧ viewOf x S.G = some (.ls ds) ∧ (x = .newL ds ∨ ∃ n, x = .val (.ref n) ∧ S.G[n]? = some (.lst ds)) := by
  obtain ⟨ds, h1, rfl | ⟨n, rfl, _, h2⟩⟩ := h
  · exact ⟨ds, h1, rfl, rfl, rfl, rfl, .inl rfl⟩
  · have e : lstM (.val (.ref n)) S.G = some ds := by simp only [lstM, h2]
    refine ⟨ds, h1, e, e, e, ?_, .inr ⟨n, rfl, h2⟩⟩
    simp only [viewOf, lstOf, e, Option.map_some]
theorem binI_sim {op : Bop} {i j : Int} {G : Hpp} {Q : R → Prop} (h : (binI op i j []).wp fun z _ => Q z) : ∃ k : Int, binI op i j G = .ok (.val (.int k)) G ∧ Q (.val (.int k)) := by
  cases op <;> simp only [binI, okV] at h ⊢ <;> first
    | exact ⟨_, rfl, h⟩
    | (split at h
       · rename_i hc
         rw [if_pos hc]
         exact ⟨_, rfl, h⟩
       · exact h.elim)
theorem rt_tup {ds vs : List D} (h : RlL S ds vs) : RT S (.val (.tup ds)) (.val (.tup vs)) := ⟨_, rfl, by rw [Rl]; exact ⟨_, rfl, h⟩, rfl⟩
theorem rt_new {ds vs : List D} (h : RlL S ds vs) : RT S (.newL ds) (.newL vs) := ⟨_, h, .inl rfl⟩
theorem rt_int {i : Int} : RT S (.val (.int i)) (.val (.int i)) := rt_flat rfl
theorem relL_rep {ds vs : List D} (h : RlL S ds vs) : ∀ n : Nat, RlL S (List.replicate n ds).flatten (List.replicate n vs).flatten
  | 0 => relL_nil
  | n + 1 => by
    rw [List.replicate_succ, List.replicate_succ, List.flatten_cons, List.flatten_cons]
    exact relL_append h (relL_rep h n)
theorem bin_sim {op : Bop} {Q : R → Prop} (hx : RX S x v) (hy : RX S y w) (h : (binR op v w []).wp fun z _ => Q z) : ∃ q z, binR op x y S.G = .ok q S.G ∧ RT S q z ∧ Q z := by
  cases v with
  | newS ds => cases w <;> (try rename_i b; try cases b) <;> simp [binR, lstM] at h
  | newD t ds => cases w <;> (try rename_i b; try cases b) <;> simp [binR, lstM] at h
  | val a =>
    obtain ⟨d, rfl, hd, nf⟩ := hx
    cases w with
    | newS ds => cases a <;> simp [binR, lstM] at h
    | newD t ds => cases a <;> simp [binR, lstM] at h
    | newL ds => cases a <;> simp [binR, lstM] at h
    | val b =>
      obtain ⟨e, rfl, he, nf2⟩ := hy
      cases a with
      | int i =>
        rw [Rl] at hd
        subst hd
        cases b with
        | int j =>
          rw [Rl] at he
          subst he
          obtain ⟨k, h1, h2⟩ := binI_sim (G := S.G) h
          exact ⟨_, _, h1, rt_int, h2⟩
        | _ => simp [binR, lstM] at h
      | str s =>
        rw [Rl] at hd
        subst hd
        cases b with
        | str t =>
          rw [Rl] at he
          subst he
          cases op <;> simp only [binR] at h ⊢ <;> first
            | exact h.elim
            | (split at h
               · rename_i hc
                 rw [if_pos hc]
                 exact ⟨_, _, rfl, rt_flat rfl, h⟩
               · exact h.elim)
        | _ => simp [binR, lstM] at h
      | tup vs =>
        rw [Rl] at hd
        obtain ⟨ds, rfl, hd⟩ := hd
        cases b with
        | tup ws =>
          rw [Rl] at he
          obtain ⟨es, rfl, he⟩ := he
          cases op <;> simp only [binR] at h ⊢ <;> first
            | exact h.elim
            | (split at h
               · rename_i hc
                 rw [if_pos (by rw [relL_len hd, relL_len he]; exact hc)]
                 exact ⟨_, _, rfl, rt_tup (relL_append hd he), h⟩
               · exact h.elim)
        | int k =>
          rw [Rl] at he
          subst he
          cases op <;> simp only [binR] at h ⊢ <;> first
            | exact h.elim
            | (split at h
               · rename_i hc
                 rw [if_pos (by
                   have hl := relL_len hd
                   refine ⟨hc.1, hc.2.1, by omega, fun z => hc.2.2.2 (List.length_eq_zero_iff.mp (by rw [← hl, z]; rfl))⟩)]
                 exact ⟨_, _, rfl, rt_tup (relL_rep hd _), h⟩
               · exact h.elim)
        | _ => simp [binR, lstM] at h
      | frl i => simp [nfD] at nf
      | _ => cases b <;> simp [binR, lstM] at h
  | newL vs =>
    obtain ⟨ds, hd, m1, _, _, _, hxx⟩ := rx_l hx
    cases w with
    | newS ds => simp [binR, lstM] at h
    | newD t ds => simp [binR, lstM] at h
    | val b =>
      obtain ⟨e, rfl, he, nf2⟩ := hy
      cases b with
      | int k =>
        rw [Rl] at he
        subst he
        have e1 : binR op (.newL vs) (.val (.int k)) [] = (match op with
          | .mul => if 0 ≤ k ∧ k ≤ 1000 ∧ vs.length ≤ 1000 then .ok (.newL (repL vs k)) [] else .bad
          | _ => .bad) := by cases op <;> rfl
        have e2 : binR op x (.val (.int k)) S.G = (match op with
          | .mul => if 0 ≤ k ∧ k ≤ 1000 ∧ ds.length ≤ 1000 then .ok (.newL (repL ds k)) S.G else .bad
          | _ => .bad) := by
          rcases hxx with rfl | ⟨n, rfl, hn⟩
          · cases op <;> rfl
          · cases op <;> simp only [binR, m1]
        rw [e1] at h
        rw [e2]
        cases op <;> simp only [] at h ⊢ <;> first
          | exact h.elim
          | (split at h
             · rename_i hc
               rw [if_pos (by rw [relL_len hd]; exact hc)]
               exact ⟨_, _, rfl, rt_new (relL_rep hd _), h⟩
             · exact h.elim)
      | _ => simp [binR, lstM] at h
    | newL ws =>
      obtain ⟨es, he, m2, _, _, _, hyy⟩ := rx_l hy
      have e1 : binR op (.newL vs) (.newL ws) [] = (match op with
        | .add => if vs.length + ws.length ≤ LIM then .ok (.newL (vs ++ ws)) [] else .bad
        | _ => .bad) := by cases op <;> rfl
      have e2 : binR op x y S.G = (match op with
        | .add => if ds.length + es.length ≤ LIM then .ok (.newL (ds ++ es)) S.G else .bad
        | _ => .bad) := by
        rcases hxx with rfl | ⟨n, rfl, hn⟩ <;> rcases hyy with rfl | ⟨m, rfl, hm⟩ <;> simp only [binR, m1, m2] <;> cases op <;> rfl
      rw [e1] at h
      rw [e2]
      cases op <;> simp only [] at h ⊢ <;> first
        | exact h.elim
        | (split at h
           · rename_i hc
             rw [if_pos (by rw [relL_len hd, relL_len he]; exact hc)]
             exact ⟨_, _, rfl, rt_new (relL_append hd he), h⟩
           · exact h.elim)
/-- a value that is data is the same in both -/
theorem rx_fl {a : D} (h : RX S x (.val a)) (f : a.fl = true) : x = .val a := by
  obtain ⟨d, rfl, hd, _⟩ := h
  rw [rel_fl f hd]
theorem view_v {a : D} (f : a.fl = true) {G : Hpp} : viewOf (.val a) G = some (.sc a) := by
  cases a <;> first | rfl | simp [D.fl] at f
theorem eq_sim {b : Bool} (hx : RX S x v) (hy : RX S y w) (h : eqR v w [] = some b) : eqR x y S.G = some b := by
  have sc : ∀ {x v : R} {a : D}, RX S x v → viewOf v [] = some (.sc a) → a.fl = true → x = .val a := fun {x v a} hx e f => by
    cases v with
    | val a' =>
      have : a' = a := by
        cases a' <;> simp [viewOf, lstOf, lstM] at e <;> exact e
      subst this
      exact rx_fl hx f
    | _ => simp [viewOf] at e
  have ls : ∀ {x v : R} {vs : List D}, RX S x v → viewOf v [] = some (.ls vs) → D.flL vs = true → viewOf x S.G = some (.ls vs) ∧ (x = .newL vs ∨ ∃ n, x = .val (.ref n)) := fun {x v vs} hx e f => by
    cases v with
    | newL us =>
      have : us = vs := by simpa [viewOf] using e
      subst this
      obtain ⟨ds, h1, _, _, _, h2, h3⟩ := rx_l hx
      have := relL_fl f h1
      subst this
      rcases h3 with h3 | ⟨n, h3, _⟩
      · exact ⟨h2, .inl h3⟩
      · exact ⟨h2, .inr ⟨n, h3⟩⟩
    | val a =>
      obtain ⟨d, rfl, hd, nf⟩ := hx
      cases a <;> simp [viewOf, lstOf, lstM, nfD] at e nf
    | _ => simp [viewOf] at e
  have gen : ∀ {r q : R} {G : Hpp}, (match viewOf r G, viewOf q G with
    | some (.sc a), some (.sc b) => if (D.dok 60 a && D.dok 60 b) = true then some (D.eqv a b) else none
    | some (.ls xs), some (.ls ys) => if (xs.all (D.dok 60) && ys.all (D.dok 60)) = true then some (D.eqvL xs ys) else none
    | some (.sc a), some (.ls ys) => if (D.dok 60 a && ys.all (D.dok 60)) = true then some false else none
    | some (.ls xs), some (.sc b) => if (xs.all (D.dok 60) && D.dok 60 b) = true then some false else none
    | _, _ => none) = some b → eqR r q G = some b := fun {r q G} e => by
    unfold eqR
    split
    · simp [viewOf, D.dok, D.eqv] at e ⊢
      rw [← e]
      rename_i i j
      cases hij : i == j
      · simp at hij ⊢; exact hij
      · simp at hij ⊢; exact hij
    · simp [viewOf, D.dok, D.eqv] at e ⊢
      rw [← e]
      rename_i i j
      cases i <;> cases j <;> rfl
    · simp [viewOf, D.dok, D.eqv] at e ⊢
      rw [← e]
      rename_i i j
      cases hij : i == j
      · simp at hij ⊢; exact hij
      · simp at hij ⊢; exact hij
    · exact e
  have gen' : (match viewOf v [], viewOf w [] with
    | some (.sc a), some (.sc b) => if (D.dok 60 a && D.dok 60 b) = true then some (D.eqv a b) else none
    | some (.ls xs), some (.ls ys) => if (xs.all (D.dok 60) && ys.all (D.dok 60)) = true then some (D.eqvL xs ys) else none
    | some (.sc a), some (.ls ys) => if (D.dok 60 a && ys.all (D.dok 60)) = true then some false else none
    | some (.ls xs), some (.sc b) => if (xs.all (D.dok 60) && D.dok 60 b) = true then some false else none
    | _, _ => none) = some b := by
    unfold eqR at h
    split at h
    · simp [viewOf, D.dok, D.eqv]
      rw [← Option.some.inj h]
      rw [Bool.eq_iff_iff]; simp
    · simp [viewOf, D.dok, D.eqv]
      rw [← Option.some.inj h]
      rename_i i j _ _
      cases i <;> cases j <;> rfl
    · simp [viewOf, D.dok, D.eqv]
      rw [← Option.some.inj h]
      rw [Bool.eq_iff_iff]; simp
    · exact h
  refine gen ?_
  cases e1 : viewOf v [] with
  | none => rw [e1] at gen'; cases gen'
  | some p =>
    cases e2 : viewOf w [] with
    | none => rw [e1, e2] at gen'; cases p <;> cases gen'
    | some q =>
      rw [e1, e2] at gen'
      cases p with
      | sc a =>
        cases q with
        | sc c =>
          simp only [] at gen'
          split at gen'
          · rename_i hc
            rw [Bool.and_eq_true] at hc
            have f1 := dok_fl _ _ hc.1
            have f2 := dok_fl _ _ hc.2
            rw [sc hx e1 f1, sc hy e2 f2, view_v f1, view_v f2]
            simp only [hc.1, hc.2, Bool.and_self, if_true]
            exact gen'
          · cases gen'
        | ls ys =>
          simp only [] at gen'
          split at gen'
          · rename_i hc
            rw [Bool.and_eq_true] at hc
            have f1 := dok_fl _ _ hc.1
            rw [sc hx e1 f1, view_v f1, (ls hy e2 (doks_fl hc.2)).1]
            simp only [hc.1, hc.2, Bool.and_self, if_true]
            exact gen'
          · cases gen'
      | ls xs =>
        cases q with
        | sc c =>
          simp only [] at gen'
          split at gen'
          · rename_i hc
            rw [Bool.and_eq_true] at hc
            have f2 := dok_fl _ _ hc.2
            rw [sc hy e2 f2, view_v f2, (ls hx e1 (doks_fl hc.1)).1]
            simp only [hc.1, hc.2, Bool.and_self, if_true]
            exact gen'
          · cases gen'
        | ls ys =>
          simp only [] at gen'
          split at gen'
          · rename_i hc
            rw [Bool.and_eq_true] at hc
            rw [(ls hx e1 (doks_fl hc.1)).1, (ls hy e2 (doks_fl hc.2)).1]
            simp only [hc.1, hc.2, Bool.and_self, if_true]
            exact gen'
          · cases gen'
theorem is_sim {b : Bool} (hx : RX S x v) (hy : RX S y w) (h : isR v w = some b) : isR x y = some b := by
  cases w with
  | val c =>
    obtain ⟨e, rfl, he, nf2⟩ := hy
    cases c with
    | non =>
      rw [Rl] at he
      subst he
      cases v with
      | val a =>
        obtain ⟨d, rfl, hd, nf⟩ := hx
        simp only [isR] at h ⊢
        rw [← h]
        congr 1
        cases a <;> rw [Rl] at hd
        · subst hd; rfl
        · subst hd; rfl
        · subst hd; rfl
        · subst hd; rfl
        · obtain ⟨ds, rfl, _⟩ := hd; rfl
        · obtain ⟨_, ds, rfl, _⟩ := hd; rfl
        · simp [nfD] at nf
      | newL vs =>
        obtain ⟨ds, _, rfl | ⟨n, rfl, _⟩⟩ := hx
        · exact h
        · simp only [isR] at h ⊢; rw [← h]; rfl
      | newD t vs => simp [isR] at h
      | newS ds => simp [isR] at h
    | bl t =>
      rw [Rl] at he
      subst he
      cases v with
      | val a =>
        obtain ⟨d, rfl, hd, nf⟩ := hx
        simp only [isR] at h ⊢
        rw [← h]
        congr 1
        cases a <;> rw [Rl] at hd
        · subst hd; rfl
        · subst hd; rfl
        · subst hd; rfl
        · subst hd; rfl
        · obtain ⟨ds, rfl, _⟩ := hd; rfl
        · obtain ⟨_, ds, rfl, _⟩ := hd; rfl
        · simp [nfD] at nf
      | _ => simp [isR] at h
    | _ => cases v <;> simp [isR] at h
  | _ => cases v <;> simp [isR] at h
theorem ord_sim {op : Cop} {b : Bool} (hx : RX S x v) (hy : RX S y w) (h : ordR op v w = some b) : ordR op x y = some b := by
  cases v with
  | val a =>
    cases w with
    | val c =>
      have key : a.fl = true ∧ c.fl = true := by
        unfold ordR at h
        split at h
        · rename_i e1 e2
          cases e1
          cases e2
          exact ⟨rfl, rfl⟩
        · rename_i e1 e2
          cases e1
          cases e2
          split at h
          · rename_i hc
            exact alike_fl hc
          · cases h
        · cases h
      rw [rx_fl hx key.1, rx_fl hy key.2]
      exact h
    | _ => simp [ordR] at h
  | _ => simp [ordR] at h
theorem in_sim {b : Bool} (hx : RX S x v) (hy : RX S y w) (h : inR v w [] = some b) : inR x y S.G = some b := by
  cases v with
  | val a =>
    cases w with
    | val c =>
      cases c with
      | tup ds =>
        simp only [inR] at h ⊢
        split at h
        · rename_i hc
          rw [Bool.and_eq_true] at hc
          rw [rx_fl hx (dok_fl _ _ hc.1), rx_fl hy (by rw [D.fl]; exact doks_fl hc.2)]
          simp only [inR, hc.1, hc.2, Bool.and_self, if_true]
          exact h
        · cases h
      | _ => simp [inR] at h
    | newL ds =>
      simp only [inR] at h
      split at h
      · rename_i hc
        rw [Bool.and_eq_true] at hc
        rw [rx_fl hx (dok_fl _ _ hc.1)]
        obtain ⟨es, h1, _, _, _, _, h3⟩ := rx_l hy
        have := relL_fl (doks_fl hc.2) h1
        subst this
        rcases h3 with rfl | ⟨n, rfl, hn⟩
        · simp only [inR, hc.1, hc.2, Bool.and_self, if_true]
          exact h
        · simp only [inR, hn, hc.1, hc.2, Bool.and_self, if_true]
          exact h
      · cases h
    | newD t ds => simp [inR] at h
    | newS ds => simp [inR] at h
  | _ => simp [inR] at h
theorem find_rel {k : D} {kvs' kvs : List (D × D)} (h : RelK S kvs' kvs) : (dfind kvs' k).isSome = (dfind kvs k).isSome ∧ ∀ d, dfind kvs k = some d → ∃ d', dfind kvs' k = some d' ∧ Rl S d' d := by
  obtain ⟨h1, h0, h2⟩ := h
  clear h0
  induction kvs generalizing kvs' with
  | nil =>
    have : kvs' = [] := by cases kvs' <;> simp_all
    subst this
    exact ⟨rfl, fun d e => by simp [dfind] at e⟩
  | cons p kvs ih =>
    cases kvs' with
    | nil => simp at h1
    | cons p' kvs' =>
      simp only [List.map_cons, List.cons.injEq] at h1
      simp only [List.map_cons] at h2
      rw [RlL] at h2
      obtain ⟨d0, ds0, e0, r0, h2⟩ := h2
      simp only [List.cons.injEq] at e0
      obtain ⟨rfl, rfl⟩ := e0
      have i := ih h1.2 h2
      unfold dfind at i ⊢
      simp only [List.find?_cons, h1.1]
      by_cases hk : p.1 = k
      · simp only [hk, decide_true, Option.map_some, Option.isSome_some]
        exact ⟨trivial, fun d e => ⟨_, rfl, by cases e; exact r0⟩⟩
      · simp only [hk, decide_false]
        exact i
theorem cmp_sim {vb : Bool} {op : Cop} {b : Bool} (hx : RX S x v) (hy : RX S y w) (hv : vb = true → ∃ d, y = .val d) (h : cmpP vb op v w = some b) : cmpR op x y S.G = some b := by
  have key : (∀ t kvs, w ≠ .newD t kvs) → cmpR op v w [] = some b → cmpR op x y S.G = some b := fun _ h => by
    cases op with
    | eq => exact eq_sim hx hy h
    | ne =>
      simp only [cmpR] at h ⊢
      cases e : eqR v w [] with
      | none => rw [e] at h; cases h
      | some c => rw [e] at h; rw [eq_sim hx hy e]; exact h
    | is => exact is_sim hx hy h
    | isn =>
      simp only [cmpR] at h ⊢
      cases e : isR v w with
      | none => rw [e] at h; cases h
      | some c => rw [e] at h; rw [is_sim hx hy e]; exact h
    | isin => exact in_sim hx hy h
    | notin =>
      simp only [cmpR] at h ⊢
      cases e : inR v w [] with
      | none => rw [e] at h; cases h
      | some c => rw [e] at h; rw [in_sim hx hy e]; exact h
    | _ => simp only [cmpR] at h ⊢; exact ord_sim hx hy h
  cases w with
  | newD t kvs =>
    cases v with
    | val d =>
      have go : vb = true → keyFor t d = true → inR x y S.G = some (dfind kvs d).isSome := fun hvb hk => by
        obtain ⟨e, rfl⟩ := hv hvb
        rw [rx_fl hx (key_fl hk)]
        obtain ⟨kvs', h1, h2 | ⟨n, h2, _, h3⟩⟩ := hy
        · cases h2
        · cases h2
          simp only [inR, h3, hk, if_true, (find_rel h1).1]
      cases vb with
      | false => cases op <;> simp [cmpP] at h
      | true =>
        cases op with
        | isin =>
          simp only [cmpP] at h
          split at h
          · rename_i hk
            simp only [cmpR]
            rw [go rfl hk]
            exact h
          · cases h
        | notin =>
          simp only [cmpP] at h
          split at h
          · rename_i hk
            simp only [cmpR]
            rw [go rfl hk]
            exact h
          · cases h
        | _ => simp [cmpP] at h
    | _ => simp [cmpP] at h
  | val c => exact key (fun _ _ => by simp) h
  | newL c => exact key (fun _ _ => by simp) h
  | newS c => exact key (fun _ _ => by simp) h
theorem atI_rel {ds vs : List D} (h : RlL S ds vs) {i : Int} {v : D} (e : L2.atI vs i = some v) : ∃ d, L2.atI ds i = some d ∧ Rl S d v := by
  unfold L2.atI at e ⊢
  rw [relL_len h]
  cases q : L2.ixN vs.length i with
  | none => rw [q] at e; cases e
  | some j =>
    rw [q] at e
    exact relL_get h e
theorem idx_sim {vb : Bool} {d : D} (hx : RX S x v) (hy : RX S y w) (hv : vb = true → ∃ d, x = .val d) (h : idxP vb v w = some d) : ∃ d', idxR x y S.G = .ok (.val d') S.G ∧ Rl S d' d := by
  cases v with
  | newD t kvs =>
    cases w with
    | val k =>
      simp only [idxP] at h
      split at h
      · rename_i hc
        rw [Bool.and_eq_true] at hc
        obtain ⟨e, rfl⟩ := hv hc.1
        rw [rx_fl hy (key_fl hc.2)]
        obtain ⟨kvs', h1, h2 | ⟨n, h2, _, h3⟩⟩ := hx
        · cases h2
        · cases h2
          obtain ⟨d', e', r⟩ := (find_rel h1).2 d h
          exact ⟨d', by simp only [idxR, h3, hc.2, if_true, e', okV], r⟩
      · cases h
    | _ => simp [idxP] at h
  | newS ds =>
    cases w with
    | val k =>
      cases k with
      | int i =>
        simp only [idxP] at h
        obtain ⟨rfl, hf⟩ := hx
        rw [rx_fl hy rfl]
        refine ⟨d, ?_, fl_rel ?_⟩
        · simp only [idxR, seqOf, lstOf, h, okV]
        · unfold L2.atI at h
          cases q : L2.ixN ds.length i with
          | none => rw [q] at h; cases h
          | some j => rw [q] at h; exact flL_iff.mp hf d (List.mem_of_getElem? h)
      | _ => simp [idxP] at h
    | _ => simp [idxP] at h
  | newL vs =>
    cases w with
    | val k =>
      cases k with
      | int i =>
        simp only [idxP, seqOf, lstOf, lstM] at h
        rw [rx_fl hy rfl]
        obtain ⟨ds, h1, _, _, h2, _, h3⟩ := rx_l hx
        obtain ⟨d', e', r⟩ := atI_rel h1 h
        refine ⟨d', ?_, r⟩
        rcases h3 with rfl | ⟨n, rfl, hn⟩
        · simp only [idxR, seqOf, lstOf, lstM, e', okV]
        · simp only [idxR, hn, e', okV]
      | _ => simp [idxP] at h
    | _ => simp [idxP] at h
  | val a =>
    cases w with
    | val k =>
      cases k with
      | int i =>
        cases a with
        | tup vs =>
          simp only [idxP, seqOf] at h
          rw [rx_fl hy rfl]
          obtain ⟨c, rfl, hc, _⟩ := hx
          rw [Rl] at hc
          obtain ⟨ds, rfl, hc⟩ := hc
          obtain ⟨d', e', r⟩ := atI_rel hc h
          exact ⟨d', by simp only [idxR, seqOf, e', okV], r⟩
        | frl vs => obtain ⟨c, _, _, nf⟩ := hx; simp [nfD] at nf
        | _ => simp [idxP, seqOf, lstOf, lstM] at h
      | _ => simp [idxP] at h
    | _ => simp [idxP] at h
theorem cut_rel {ds vs : List D} (h : RlL S ds vs) (l m : Option Int) : RlL S (cutD ds l m) (cutD vs l m) := by
  unfold cutD
  rw [relL_len h]
  exact relL_sub h _ _
theorem cut_sim {l m : Option Int} {Q : R → Prop} (hx : RX S x v) (h : (cutR v l m []).wp fun z _ => Q z) : ∃ q z, cutR x l m S.G = .ok q S.G ∧ RT S q z ∧ Q z := by
  cases v with
  | val a =>
    obtain ⟨c, rfl, hc, nf⟩ := hx
    cases a with
    | tup vs =>
      rw [Rl] at hc
      obtain ⟨ds, rfl, hc⟩ := hc
      exact ⟨_, _, rfl, rt_tup (cut_rel hc l m), h⟩
    | frl vs => simp [nfD] at nf
    | _ => simp [cutR, lstOf, lstM] at h
  | newL vs =>
    obtain ⟨ds, h1, _, h2, _, _, h3⟩ := rx_l hx
    refine ⟨.newL (cutD ds l m), .newL (cutD vs l m), ?_, ⟨_, cut_rel h1 l m, .inl rfl⟩, h⟩
    rcases h3 with rfl | ⟨n, rfl, hn⟩
    · rfl
    · simp only [cutR, h2]
  | _ => simp [cutR, lstOf, lstM] at h
theorem len_sim {n : Int} (hx : RX S x v) (h : lenP v = some n) : lenR x S.G = .ok (.val (.int n)) S.G := by
  cases v with
  | val a =>
    obtain ⟨c, rfl, hc, nf⟩ := hx
    cases a with
    | tup vs =>
      rw [Rl] at hc
      obtain ⟨ds, rfl, hc⟩ := hc
      simp only [lenP] at h
      cases h
      simp only [lenR, seqOf, okV, relL_len hc]
    | str s =>
      rw [Rl] at hc
      subst hc
      simp only [lenP] at h
      split at h
      · rename_i hl
        cases h
        simp only [lenR, hl, if_true, okV]
      · cases h
    | frl vs => simp [nfD] at nf
    | _ => simp [lenP] at h
  | newL vs =>
    obtain ⟨ds, h1, _, _, h2, _, h3⟩ := rx_l hx
    simp only [lenP] at h
    cases h
    rcases h3 with rfl | ⟨n, rfl, hn⟩
    · simp only [lenR, seqOf, lstOf, lstM, okV, relL_len h1]
    · simp only [lenR, hn, okV, relL_len h1]
  | newS vs =>
    obtain ⟨rfl, hf⟩ := hx
    simp only [lenP] at h
    cases h
    simp only [lenR, seqOf, lstOf, okV]
  | newD t vs => simp [lenP] at h
theorem isi_sim {t : Ty} {b : Bool} (hx : RX S x v) (h : isiR v t [] = some b) : isiR x t S.G = some b := by
  cases v with
  | val a =>
    obtain ⟨c, rfl, hc, nf⟩ := hx
    cases a <;> rw [Rl] at hc
    · subst hc; exact h
    · subst hc; exact h
    · subst hc; exact h
    · subst hc; exact h
    · obtain ⟨ds, rfl, _⟩ := hc; exact h
    · simp [isiR] at h
    · simp [nfD] at nf
  | newL vs =>
    obtain ⟨ds, h1, _, _, _, _, h3⟩ := rx_l hx
    rcases h3 with rfl | ⟨n, rfl, hn⟩
    · exact h
    · simp only [isiR, hn] at h ⊢; exact h
  | _ => simp [isiR] at h
theorem ints_fl : ∀ {vs : List D} {is : List Int}, intsOf vs = some is → D.flL vs = true
  | [], _, _ => rfl
  | .int i :: r, is, h => by
    simp only [intsOf, Option.map_eq_some_iff] at h
    obtain ⟨a, h, _⟩ := h
    rw [D.flL, ints_fl h]
    rfl
  | .non :: r, _, h => by simp [intsOf] at h
  | .bl _ :: r, _, h => by simp [intsOf] at h
  | .str _ :: r, _, h => by simp [intsOf] at h
  | .tup _ :: r, _, h => by simp [intsOf] at h
  | .ref _ :: r, _, h => by simp [intsOf] at h
  | .frl _ :: r, _, h => by simp [intsOf] at h
theorem bls_fl : ∀ {vs : List D} {is : List Bool}, blsOf vs = some is → D.flL vs = true
  | [], _, _ => rfl
  | .bl i :: r, is, h => by
    simp only [blsOf, Option.map_eq_some_iff] at h
    obtain ⟨a, h, _⟩ := h
    rw [D.flL, bls_fl h]
    rfl
  | .non :: r, _, h => by simp [blsOf] at h
  | .int _ :: r, _, h => by simp [blsOf] at h
  | .str _ :: r, _, h => by simp [blsOf] at h
  | .tup _ :: r, _, h => by simp [blsOf] at h
  | .ref _ :: r, _, h => by simp [blsOf] at h
  | .frl _ :: r, _, h => by simp [blsOf] at h
theorem minD_mem' : ∀ (x : D) (r : List D), minD x r ∈ x :: r
  | x, [] => by simp [minD]
  | x, y :: r => by
    rw [minD]
    have := minD_mem' (if ltD y x then y else x) r
    split at this <;> rename_i hc <;> (first | rw [if_pos hc] | rw [if_neg hc]) <;> simp only [List.mem_cons] at this ⊢ <;> rcases this with h | h <;> simp [h]
theorem maxD_mem' : ∀ (x : D) (r : List D), maxD x r ∈ x :: r
  | x, [] => by simp [maxD]
  | x, y :: r => by
    rw [maxD]
    have := maxD_mem' (if ltD x y then y else x) r
    split at this <;> rename_i hc <;> (first | rw [if_pos hc] | rw [if_neg hc]) <;> simp only [List.mem_cons] at this ⊢ <;> rcases this with h | h <;> simp [h]
theorem mem_fl {vs : List D} {d : D} (h : D.flL vs = true) (m : d ∈ vs) : d.fl = true := flL_iff.mp h d m
theorem seqC_sim {b : Sb} {ds vs : List D} {Q : R → Prop} (h0 : RlL S ds vs) (h : (seqC b vs []).wp fun z _ => Q z) : ∃ q z, seqC b ds S.G = .ok q S.G ∧ RT S q z ∧ Q z := by
  cases b with
  | list => exact ⟨_, _, rfl, rt_new h0, h⟩
  | sorted =>
    simp only [seqC] at h ⊢
    split at h
    · rename_i hc
      have hf : D.flL vs = true := by
        unfold sortOk at hc
        rw [Bool.and_eq_true] at hc
        exact alikes_fl hc.1
      have := relL_fl hf h0
      subst this
      rw [if_pos hc]
      refine ⟨_, _, rfl, rt_new (flL_rel ?_), h⟩
      rw [flL_iff]
      intro d hd
      exact mem_fl hf (List.mem_mergeSort.mp hd)
    · exact h.elim
  | _ => exact h.elim
theorem seqT_sim {b : Sb} {ds vs : List D} {Q : R → Prop} (h0 : RlL S ds vs) (h : (seqT b vs []).wp fun z _ => Q z) : ∃ q z, seqT b ds S.G = .ok q S.G ∧ RT S q z ∧ Q z := by
  cases b with
  | tuple => exact ⟨_, _, rfl, rt_tup h0, h⟩
  | min =>
    cases vs with
    | nil => exact h.elim
    | cons x r =>
      simp only [seqT] at h
      split at h
      · rename_i hc
        have hf := alikes_fl hc
        have := relL_fl hf h0
        subst this
        simp only [seqT, hc, if_true]
        exact ⟨_, _, rfl, rt_flat (mem_fl hf (minD_mem' x r)), h⟩
      · exact h.elim
  | max =>
    cases vs with
    | nil => exact h.elim
    | cons x r =>
      simp only [seqT] at h
      split at h
      · rename_i hc
        have hf := alikes_fl hc
        have := relL_fl hf h0
        subst this
        simp only [seqT, hc, if_true]
        exact ⟨_, _, rfl, rt_flat (mem_fl hf (maxD_mem' x r)), h⟩
      · exact h.elim
  | list => exact seqC_sim (b := .list) h0 h
  | sorted => exact seqC_sim (b := .sorted) h0 h
  | _ => exact h.elim
theorem seqL_sim {b : Sb} {ds vs : List D} {Q : R → Prop} (h0 : RlL S ds vs) (h : (seqL b vs []).wp fun z _ => Q z) : ∃ q z, seqL b ds S.G = .ok q S.G ∧ RT S q z ∧ Q z := by
  cases b with
  | sum =>
    simp only [seqL] at h ⊢
    cases e : intsOf vs with
    | none => rw [e] at h; exact h.elim
    | some is =>
      have := relL_fl (ints_fl e) h0
      subst this
      rw [e] at h ⊢
      exact ⟨_, _, rfl, rt_int, h⟩
  | all =>
    simp only [seqL] at h ⊢
    cases e : blsOf vs with
    | none => rw [e] at h; exact h.elim
    | some is =>
      have := relL_fl (bls_fl e) h0
      subst this
      rw [e] at h ⊢
      exact ⟨_, _, rfl, rt_flat rfl, h⟩
  | any =>
    simp only [seqL] at h ⊢
    cases e : blsOf vs with
    | none => rw [e] at h; exact h.elim
    | some is =>
      have := relL_fl (bls_fl e) h0
      subst this
      rw [e] at h ⊢
      exact ⟨_, _, rfl, rt_flat rfl, h⟩
  | tuple => exact seqT_sim (b := .tuple) h0 h
  | list => exact seqT_sim (b := .list) h0 h
  | sorted => exact seqT_sim (b := .sorted) h0 h
  | sortedR => exact seqT_sim (b := .sortedR) h0 h
  | min => exact seqT_sim (b := .min) h0 h
  | max => exact seqT_sim (b := .max) h0 h
  | set => exact seqT_sim (b := .set) h0 h
  | dict => exact seqT_sim (b := .dict) h0 h
theorem seq_sim {b : Sb} {Q : R → Prop} (hx : RX S x v) (h : (seqR b v []).wp fun z _ => Q z) : ∃ q z, seqR b x S.G = .ok q S.G ∧ RT S q z ∧ Q z := by
  cases v with
  | val a =>
    obtain ⟨c, rfl, hc, nf⟩ := hx
    cases a with
    | tup vs =>
      rw [Rl] at hc
      obtain ⟨ds, rfl, hc⟩ := hc
      exact seqT_sim hc h
    | frl vs => simp [nfD] at nf
    | _ => simp [seqR] at h
  | newL vs =>
    obtain ⟨ds, h1, _, _, _, _, h3⟩ := rx_l hx
    rcases h3 with rfl | ⟨n, rfl, hn⟩
    · exact seqL_sim h1 h
    · simp only [seqR, hn]
      exact seqL_sim h1 h
  | newS ds => simp [seqR] at h
  | newD t kvs =>
    obtain ⟨kvs', h1, h3⟩ := hx
    have : RlL S (kvs'.map (·.1)) (kvs.map (·.1)) := by rw [h1.1]; exact flL_rel h1.2.1
    rcases h3 with rfl | ⟨n, rfl, _, hn⟩
    · exact seqC_sim this h
    · simp only [seqR, hn]
      exact seqC_sim this h
end
end LK

set_option Elab.async false
set_option linter.all false
set_option autoImplicit false
set_option maxRecDepth 100000
set_option maxHeartbeats 1000000
/-! PkExp: expressions: what is shown without a heap holds with one. -/
namespace LK
open PySem
def Sn {α : Type} (S : Hs) (r : Res α) (Q : α → Hs → Prop) (X : XP) : Prop := match r with
  | .ok a G => ∃ S' : Hs, S'.G = G ∧ Ext S.G.length S S' ∧ HI S' ∧ Q a S'
  | .ex c d G => d.fl = true ∧ X c d ∧ ∃ S' : Hs, S'.G = G ∧ Ext S.G.length S S' ∧ HI S'
  | .bad => False
section
variable {S S' : Hs} {α β : Type} {X : XP}
theorem sn_bind {r : Res α} {f : α → Hpp → Res β} {Q : α → Hs → Prop} {Q' : β → Hs → Prop} (h : Sn S r Q X) (g : ∀ a S', Ext S.G.length S S' → HI S' → Q a S' → Sn S' (f a S'.G) Q' X) : Sn S (r.bind f) Q' X := by
  cases r with
  | bad => exact h
  | ex c d G => exact h
  | ok a G =>
    obtain ⟨S', rfl, e, hi, q⟩ := h
    have := g a S' e hi q
    show Sn S (f a S'.G) Q' X
    cases e2 : f a S'.G with
    | bad => rw [e2] at this; exact this
    | ex c d G =>
      rw [e2] at this
      obtain ⟨h1, h2, S2, h3, h4, h5⟩ := this
      exact ⟨h1, h2, S2, h3, e.tr h4, h5⟩
    | ok b G =>
      rw [e2] at this
      obtain ⟨S2, h3, h4, h5, h6⟩ := this
      exact ⟨S2, h3, e.tr h4, h5, h6⟩
theorem sn_ok {a : α} {Q : α → Hs → Prop} (hi : HI S) (h : Q a S) : Sn S (.ok a S.G) Q X := ⟨S, rfl, Ext.refl, hi, h⟩
theorem sn_eq {r : Res α} {a : α} {Q : α → Hs → Prop} (hi : HI S) (e : r = .ok a S.G) (h : Q a S) : Sn S r Q X := by rw [e]; exact sn_ok hi h
theorem sn_imp {r : Res α} {Q Q' : α → Hs → Prop} (h : Sn S r Q X) (g : ∀ a S', Ext S.G.length S S' → HI S' → Q a S' → Q' a S') : Sn S r Q' X := by
  cases r with
  | bad => exact h
  | ex c d G => exact h
  | ok a G =>
    obtain ⟨S', h1, h2, h3, h4⟩ := h
    exact ⟨S', h1, h2, h3, g a S' h2 h3 h4⟩
theorem sn_noEx {r : Res α} {Q : α → Hs → Prop} (h : Sn S r Q noX) : Sn S (noEx r) Q X := by
  cases r with
  | bad => exact h
  | ex c d G => exact h.2.1.elim
  | ok a G => exact h
theorem sn_noX {r : Res α} {Q : α → Hs → Prop} (h : Sn S r Q noX) : Sn S r Q X := by
  cases r with
  | bad => exact h
  | ex c d G => exact h.2.1.elim
  | ok a G => exact h
/-- a new cell -/
theorem new_cell (hi : HI S) {c : Cell} (hc : c.low S.G.length = true) : ∃ S' : Hs, S'.G = S.G ++ [c] ∧ Ext S.G.length S S' ∧ HI S' ∧ S'.A S.G.length ∧ S'.G[S.G.length]? = some c := by
  refine ⟨⟨fun n => S.A n ∨ n = S.G.length, S.B, S.G ++ [c]⟩, rfl, ⟨by simp, fun n h => .inl h, fun n h => h, fun n hn _ => List.getElem?_append_left hn, fun n h => List.getElem?_append_left (hi.al n h), fun n h => h.imp_right fun e => by omega, fun n h => .inl h⟩, ⟨fun n h => ?_, fun n h => ?_, fun n h b => ?_, fun n d e => ?_⟩, .inr rfl, by simp⟩
  · rcases h with h | h
    · have := hi.al n h; simp; omega
    · simp [h]
  · obtain ⟨x, y, e⟩ := hi.bx n h
    exact ⟨x, y, by rw [List.getElem?_append_left (hi.bl h)]; exact e⟩
  · rcases h with h | h
    · exact hi.ab n h b
    · have := hi.bl b; omega
  · show d.low (S.G ++ [c]).length = true
    have e : (S.G ++ [c])[n]? = some d := e
    by_cases hn : n < S.G.length
    · rw [List.getElem?_append_left hn] at e
      exact clow_mono (by simp) (hi.low n d e)
    · have : n = S.G.length := by
        have := (List.getElem?_eq_some_iff.mp e).1
        simp at this
        omega
      subst this
      simp at e
      subst e
      exact clow_mono (by simp) hc
theorem relK_low (hi : HI S) {t : Bool} {kvs' kvs : List (D × D)} (h : RelK S kvs' kvs) : (Cell.dct t kvs').low S.G.length = true := by
  unfold Cell.low
  rw [List.all_eq_true]
  intro p hp
  have h1 : D.flL (kvs'.map (·.1)) = true := by rw [h.1]; exact h.2.1
  have h2 := relL_low hi h.2.2
  have l2 : ∀ {l : List D} {n : Nat} {d : D}, D.lowL n l = true → d ∈ l → d.low n = true := by
    intro l
    induction l with
    | nil => intro n d _ m; cases m
    | cons x xs ih =>
      intro n d q m
      rw [D.lowL, Bool.and_eq_true] at q
      rcases List.mem_cons.mp m with rfl | m
      · exact q.1
      · exact ih q.2 m
  rw [Bool.and_eq_true]
  exact ⟨fl_low (mem_fl h1 (List.mem_map.mpr ⟨p, hp, rfl⟩)), l2 h2 (List.mem_map.mpr ⟨p, hp, rfl⟩)⟩
/-- a result becomes a value -/
theorem toD_rt (hi : HI S) {x v : R} (h : RT S x v) : Sn S (toD x S.G) (fun d S' => RT S' (.val d) v) X := by
  cases v with
  | val w =>
    obtain ⟨d, rfl, h⟩ := h
    exact sn_ok hi ⟨d, rfl, h⟩
  | newS ds =>
    obtain ⟨rfl, h⟩ := h
    exact sn_ok hi ⟨rfl, h⟩
  | newL vs =>
    obtain ⟨ds, h1, rfl | ⟨n, rfl, h2, h3⟩⟩ := h
    · obtain ⟨S', e1, e2, e3, e4, e5⟩ := new_cell hi (c := .lst ds) (by unfold Cell.low; exact relL_low hi h1)
      exact ⟨S', e1, e2, e3, ds, h1.ext e2, .inr ⟨_, rfl, e4, e5⟩⟩
    · exact sn_ok hi ⟨ds, h1, .inr ⟨n, rfl, h2, h3⟩⟩
  | newD t vs =>
    obtain ⟨ds, h1, rfl | ⟨n, rfl, h2, h3⟩⟩ := h
    · obtain ⟨S', e1, e2, e3, e4, e5⟩ := new_cell hi (c := .dct t ds) (relK_low hi h1)
      exact ⟨S', e1, e2, e3, ds, h1.ext e2, .inr ⟨_, rfl, e4, e5⟩⟩
    · exact sn_ok hi ⟨ds, h1, .inr ⟨n, rfl, h2, h3⟩⟩
theorem rt_pd {d : D} {v : R} {Q : D → Prop} (h : RT S (.val d) v) (q : pd v Q) : ∃ w, Rl S d w ∧ Q w := by
  cases v with
  | val w =>
    obtain ⟨d', e, h, _⟩ := h
    cases e
    exact ⟨w, h, q⟩
  | newL vs =>
    obtain ⟨ds, h1, h2 | ⟨n, h2, h3, h4⟩⟩ := h
    · cases h2
    · cases h2
      exact ⟨.frl vs, by rw [Rl]; exact ⟨n, ds, rfl, h3, h4, h1⟩, q⟩
  | newS ds => exact q.elim
  | newD t ds => exact q.elim
/-! ### names -/
variable {N : Nat} {ρ : PEnv} {σ : Env}
theorem inv_set (h : Inv N S ρ σ) {i : Nat} {d : D} {r : R} (q : RT S (.val d) r) : Inv N S (ρ.set i (some (.fz, r))) (σ.set i (some d)) where
  len := by simp [h.len]
  fz := fun j r' e => by
    rw [List.getElem?_set] at e ⊢
    split at e
    · rename_i hij
      subst hij
      split at e
      · rename_i hl
        cases e
        exact ⟨d, by rw [if_pos rfl, if_pos (by rw [h.len]; exact hl)], q⟩
      · cases e
    · rename_i hij
      rw [if_neg hij]
      exact h.fz j r' e
  ow := fun j r' e => by
    rw [List.getElem?_set] at e ⊢
    split at e
    · split at e <;> cases e
    · rename_i hij
      rw [if_neg hij]
      exact h.ow j r' e
  ns := fun j r' e => by
    rw [List.getElem?_set] at e
    split at e
    · split at e <;> cases e
    · exact h.ns j r' e
  dj := fun j k r' q' n m hjk e1 e2 => by
    rw [List.getElem?_set] at e1 e2 ⊢
    rw [List.getElem?_set]
    split at e1
    · split at e1 <;> cases e1
    · rename_i h1
      split at e2
      · split at e2 <;> cases e2
      · rename_i h2
        rw [if_neg h1, if_neg h2]
        exact h.dj j k r' q' n m hjk e1 e2
theorem psets_s : ∀ {js : List Nat} {vs ds : List D} {ρ ρ1 : PEnv} {σ : Env}, Inv N S ρ σ → RlL S ds vs → psets ρ js vs = some ρ1 → ∃ σ1, setSlots σ js ds = some σ1 ∧ Inv N S ρ1 σ1
  | [], [], ds, ρ, ρ1, σ, h, r, e => by
    rw [RlL] at r
    subst r
    simp only [psets] at e
    cases e
    exact ⟨σ, rfl, h⟩
  | j :: js, v :: vs, ds, ρ, ρ1, σ, h, r, e => by
    rw [RlL] at r
    obtain ⟨d, ds', rfl, r1, r2⟩ := r
    simp only [psets] at e
    obtain ⟨σ1, e1, h1⟩ := psets_s (inv_set h (rt_toR r1)) r2 e
    exact ⟨σ1, e1, h1⟩
  | [], v :: vs, ds, ρ, ρ1, σ, h, r, e => by simp [psets] at e
  | j :: js, [], ds, ρ, ρ1, σ, h, r, e => by simp [psets] at e
theorem bind_s {tg : Tg} {d : D} {r : R} {Q : PEnv → Prop} (h : Inv N S ρ σ) (hr : RT S (.val d) r) (q : pbind tg r ρ Q) : ∃ σ1 ρ1, bindTg tg d σ = some σ1 ∧ Inv N S ρ1 σ1 ∧ Q ρ1 := by
  cases tg with
  | one i => exact ⟨_, _, rfl, inv_set h hr, q⟩
  | many js =>
    cases r with
    | val w =>
      cases w with
      | tup vs =>
        obtain ⟨d', e, hr, _⟩ := hr
        cases e
        rw [Rl] at hr
        obtain ⟨ds, rfl, hr⟩ := hr
        simp only [pbind] at q
        cases e : psets ρ js vs with
        | none => rw [e] at q; exact q.elim
        | some ρ1 =>
          rw [e] at q
          obtain ⟨σ1, e1, h1⟩ := psets_s h hr e
          exact ⟨σ1, ρ1, e1, h1, q⟩
      | _ => exact q.elim
    | _ => exact q.elim
/-! ### walks -/
def WQ (S : Hs) (p : Nat → Prop) (w : Walk) (vs : List D) : Prop := ∃ ds, RlL S ds vs ∧ ∀ G' : Hpp, (∀ n, p n → G'[n]? = S.G[n]?) → Its w ds G'
theorem walk_s {p : Nat → Prop} {x v : R} {vs : List D} (h : RQ S p x v) (e : itemsP v = some vs) : ∃ w, toWalk x S.G = .ok w S.G ∧ WQ S p w vs := by
  cases v with
  | val a =>
    obtain ⟨c, rfl, hc, nf⟩ := h
    cases a with
    | tup us =>
      rw [Rl] at hc
      obtain ⟨ds, rfl, hc⟩ := hc
      simp only [itemsP] at e
      cases e
      exact ⟨_, rfl, ds, hc, fun G' _ => its_fix⟩
    | _ => simp [itemsP] at e
  | newL us =>
    simp only [itemsP] at e
    cases e
    obtain ⟨ds, h1, rfl | ⟨n, rfl, h2, h3⟩⟩ := h
    · exact ⟨_, rfl, ds, h1, fun G' _ => its_fix⟩
    · refine ⟨.cell n, by simp only [toWalk, h3], ds, h1, fun G' q => its_cell (by rw [q n h2]; exact h3)⟩
  | newS us =>
    simp only [itemsP] at e
    cases e
    obtain ⟨rfl, h1⟩ := h
    exact ⟨_, rfl, vs, flL_rel h1, fun G' _ => its_fix⟩
  | newD t us => simp [itemsP] at e
theorem wq_enum {p : Nat → Prop} {w : Walk} {vs : List D} (h : WQ S p w vs) : WQ S p (.enum w) (vs.zipIdx.map fun p => .tup [.int p.2, p.1]) := by
  obtain ⟨ds, h1, h2⟩ := h
  refine ⟨ds.zipIdx.map fun p => .tup [.int p.2, p.1], ?_, fun G' q => its_enum (h2 G' q)⟩
  refine relL_of (by simp [relL_len h1]) fun i d v e1 e2 => ?_
  simp only [List.getElem?_map, List.getElem?_zipIdx, Option.map_map, Option.map_eq_some_iff] at e1 e2
  obtain ⟨a, ea, rfl⟩ := e1
  obtain ⟨b, eb, rfl⟩ := e2
  obtain ⟨a', ea', r⟩ := relL_get h1 eb
  rw [ea] at ea'
  cases ea'
  simp only [Function.comp]
  rw [Rl]
  exact ⟨_, rfl, relL_cons (fl_rel rfl) (relL_cons r relL_nil)⟩
theorem wq_zip {p : Nat → Prop} {w u : Walk} {vs us : List D} (h : WQ S p w vs) (g : WQ S p u us) : WQ S p (.zip w u) ((vs.zip us).map fun p => .tup [p.1, p.2]) := by
  obtain ⟨ds, h1, h2⟩ := h
  obtain ⟨es, g1, g2⟩ := g
  refine ⟨(ds.zip es).map fun p => .tup [p.1, p.2], ?_, fun G' q => its_zip (h2 G' q) (g2 G' q)⟩
  refine relL_of (by simp [relL_len h1, relL_len g1]) fun i d v e1 e2 => ?_
  simp only [List.getElem?_map, Option.map_eq_some_iff] at e1 e2
  obtain ⟨a, ea, rfl⟩ := e1
  obtain ⟨b, eb, rfl⟩ := e2
  rw [List.getElem?_zip_eq_some] at ea eb
  obtain ⟨a1, ea1, r1⟩ := relL_get h1 eb.1
  obtain ⟨a2, ea2, r2⟩ := relL_get g1 eb.2
  rw [ea.1] at ea1
  rw [ea.2] at ea2
  cases ea1
  cases ea2
  rw [Rl]
  exact ⟨_, rfl, relL_cons r1 (relL_cons r2 relL_nil)⟩
theorem wq_rng {p : Nat → Prop} {lo : Int} {n : Nat} : WQ S p (.rng lo n) ((List.range n).map fun (k : Nat) => .int (lo + k)) :=
  ⟨_, flL_rel (by rw [flL_iff]; intro d hd; obtain ⟨k, _, rfl⟩ := List.mem_map.mp hd; rfl), fun G' _ => its_rng⟩
theorem wq_imp {p q : Nat → Prop} {w : Walk} {vs : List D} (h : WQ S p w vs) (i : ∀ n, p n → q n) : WQ S q w vs := by
  obtain ⟨ds, h1, h2⟩ := h
  exact ⟨ds, h1, fun G' e => h2 G' fun n hn => e n (i n hn)⟩
/-! ### comprehensions -/
theorem comp_s {f : D → Hpp → Res (Option D)} {g : D → (Option D → Prop) → Prop} {w : Walk} {ds : List D} {Q : List D → Prop} {S0 : Hs}
    (hw : ∀ S, Ext S0.G.length S0 S → HI S → Its w ds S.G) (hl : ds.length ≤ LIM)
    (hf : ∀ (S : Hs) (d v : D) (k : Option D → Prop), Ext S0.G.length S0 S → HI S → Rl S d v → g v k → Sn S (f d S.G) (fun o S' => (∀ d, o = some d → ∃ v, Rl S' d v ∧ k (some v)) ∧ (o = none → k none)) noX) :
    ∀ (us : List D) (n i : Nat) (acc pacc : List D) (S : Hs), Ext S0.G.length S0 S → HI S → RlL S (ds.drop i) us → acc.length ≤ i → RlL S acc pacc → us.length < n → pcomp g us pacc Q → Sn S (compF f w n i acc S.G) (fun xs S' => ∃ ys, RlL S' xs ys ∧ Q ys) X
  | _, 0, _, _, _, _, _, _, _, _, _, h, _ => by omega
  | [], n + 1, i, acc, pacc, S, e, hi, hd, ha, hacc, hn, h => by
    rw [compF, (hw S e hi).1 i]
    have : ds[i]? = none := by
      rw [RlL] at hd
      rw [List.getElem?_eq_none_iff]
      exact List.drop_eq_nil_iff.mp hd
    rw [this]
    exact sn_ok hi ⟨pacc, hacc, h⟩
  | u :: us, n + 1, i, acc, pacc, S, e, hi, hd, ha, hacc, hn, h => by
    rw [compF, (hw S e hi).1 i]
    rw [RlL] at hd
    obtain ⟨d, ds', e1, r1, r2⟩ := hd
    have e2 : ds[i]? = some d := by
      have := congrArg (·[0]?) e1
      simpa using this
    have hlt := (List.getElem?_eq_some_iff.mp e2).1
    have e3 : ds.drop (i + 1) = ds' := by
      have := congrArg List.tail e1
      simpa [List.tail_drop] using this
    rw [e2]
    refine sn_bind (sn_noX (hf S d u _ e hi r1 h)) fun o S' ex hi' q => ?_
    cases o with
    | none =>
      exact comp_s hw hl hf us n (i + 1) acc pacc S' (e.tr ex) hi' (by rw [e3]; exact r2.ext ex) (by omega) (hacc.ext ex) (by simp at hn; omega) (q.2 rfl)
    | some x =>
      obtain ⟨v, hv, hk⟩ := q.1 x rfl
      dsimp only
      rw [if_pos (by omega)]
      exact comp_s hw hl hf us n (i + 1) (acc ++ [x]) (pacc ++ [v]) S' (e.tr ex) hi' (by rw [e3]; exact r2.ext ex) (by simp; omega) (relL_append (hacc.ext ex) (relL_cons hv relL_nil)) (by simp at hn; omega) hk
theorem relK_put {kvs' kvs : List (D × D)} (h : RelK S kvs' kvs) {k v' v : D} (hk : k.fl = true) (hv : Rl S v' v) : RelK S (dput kvs' k v') (dput kvs k v) := by
  have hf := (find_rel (k := k) h).1
  unfold dput
  rw [hf]
  split
  · obtain ⟨h1, h0, h2⟩ := h
    have m1 : ∀ (l : List (D × D)) (w : D), (l.map fun p => if p.1 = k then (p.1, w) else p).map (·.1) = l.map (·.1) := fun l w => by
      rw [List.map_map]
      congr 1
      funext p
      simp only [Function.comp]
      split <;> rfl
    refine ⟨by rw [m1, m1]; exact h1, by rw [m1]; exact h0, ?_⟩
    have hl := relL_len h2
    simp only [List.length_map] at hl
    refine relL_of (by simp [hl]) fun i d w e1 e2 => ?_
    simp only [List.map_map, List.getElem?_map, Option.map_eq_some_iff] at e1 e2
    obtain ⟨p, hp, rfl⟩ := e1
    obtain ⟨q, hq, rfl⟩ := e2
    have ek : p.1 = q.1 := by
      have := congrArg (·[i]?) h1
      simp only [List.getElem?_map, hp, hq, Option.map_some] at this
      exact Option.some.inj this
    obtain ⟨d', hd', r⟩ := relL_get h2 (i := i) (v := q.2) (by rw [List.getElem?_map, hq]; rfl)
    rw [List.getElem?_map, hp] at hd'
    cases hd'
    simp only [Function.comp, ek]
    split
    · exact hv
    · exact r
  · refine ⟨by simp [h.1], ?_, ?_⟩
    · rw [List.map_append, flL_iff]
      intro d hd
      rcases List.mem_append.mp hd with hd | hd
      · exact mem_fl h.2.1 hd
      · simp at hd; subst hd; exact hk
    · rw [List.map_append, List.map_append]
      exact relL_append h.2.2 (relL_cons hv relL_nil)
theorem relK_len {kvs' kvs : List (D × D)} (h : RelK S kvs' kvs) : kvs'.length = kvs.length := by
  have := congrArg List.length h.1
  simpa using this
theorem dcomp_s {f : D → Hpp → Res (Option (D × D))} {g : D → (Option (D × D) → Prop) → Prop} {w : Walk} {ds : List D} {Q : List (D × D) → Prop} {S0 : Hs}
    (hw : ∀ S, Ext S0.G.length S0 S → HI S → Its w ds S.G)
    (hf : ∀ (S : Hs) (d v : D) (k : Option (D × D) → Prop), Ext S0.G.length S0 S → HI S → Rl S d v → g v k → Sn S (f d S.G) (fun o S' => (∀ a b, o = some (a, b) → ∃ c e, Rl S' a c ∧ Rl S' b e ∧ k (some (c, e))) ∧ (o = none → k none)) noX) :
    ∀ (us : List D) (n i : Nat) (acc pacc : List (D × D)) (S : Hs), Ext S0.G.length S0 S → HI S → RlL S (ds.drop i) us → RelK S acc pacc → us.length < n → pdcomp g us pacc Q → Sn S (dcompF f w n i acc S.G) (fun xs S' => ∃ ys, RelK S' xs ys ∧ Q ys) X
  | _, 0, _, _, _, _, _, _, _, _, h, _ => by omega
  | [], n + 1, i, acc, pacc, S, e, hi, hd, hacc, hn, h => by
    rw [dcompF, (hw S e hi).1 i]
    have : ds[i]? = none := by
      rw [RlL] at hd
      rw [List.getElem?_eq_none_iff]
      exact List.drop_eq_nil_iff.mp hd
    rw [this]
    exact sn_ok hi ⟨pacc, hacc, h⟩
  | u :: us, n + 1, i, acc, pacc, S, e, hi, hd, hacc, hn, h => by
    rw [dcompF, (hw S e hi).1 i]
    rw [RlL] at hd
    obtain ⟨d, ds', e1, r1, r2⟩ := hd
    have e2 : ds[i]? = some d := by
      have := congrArg (·[0]?) e1
      simpa using this
    have hlt := (List.getElem?_eq_some_iff.mp e2).1
    have e3 : ds.drop (i + 1) = ds' := by
      have := congrArg List.tail e1
      simpa [List.tail_drop] using this
    rw [e2]
    refine sn_bind (sn_noX (hf S d u _ e hi r1 h)) fun o S' ex hi' q => ?_
    cases o with
    | none =>
      exact dcomp_s hw hf us n (i + 1) acc pacc S' (e.tr ex) hi' (by rw [e3]; exact r2.ext ex) (hacc.ext ex) (by simp at hn; omega) (q.2 rfl)
    | some x =>
      obtain ⟨a, b⟩ := x
      obtain ⟨c, z, hc, hz, hk1, hk2⟩ := q.1 a b rfl
      have hfl := key_fl hk1.1
      have := rel_fl hfl hc
      subst this
      dsimp only
      rw [if_pos ⟨hk1.1, by rw [relK_len hacc]; exact hk1.2⟩]
      exact dcomp_s hw hf us n (i + 1) _ _ S' (e.tr ex) hi' (by rw [e3]; exact r2.ext ex) (relK_put (hacc.ext ex) hfl hz) (by simp at hn; omega) hk2
end
/-! ### expressions -/
def RTs (S : Hs) : List D → List R → Prop
  | [], [] => True
  | d :: ds, r :: rs => RT S (.val d) r ∧ RTs S ds rs
  | _, _ => False
theorem RTs.ext {S S' : Hs} {N : Nat} (e : Ext N S S') : ∀ {ds : List D} {rs : List R}, RTs S ds rs → RTs S' ds rs
  | [], [], _ => trivial
  | d :: ds, r :: rs, h => ⟨h.1.ext e, RTs.ext e h.2⟩
  | [], _ :: _, h => h.elim
  | _ :: _, [], h => h.elim
theorem rts_append {S : Hs} : ∀ {ds : List D} {rs : List R} {es : List D} {ts : List R}, RTs S ds rs → RTs S es ts → RTs S (ds ++ es) (rs ++ ts)
  | [], [], _, _, _, h => h
  | d :: ds, r :: rs, _, _, h, g => ⟨h.1, rts_append h.2 g⟩
  | [], _ :: _, _, _, h, _ => h.elim
  | _ :: _, [], _, _, h, _ => h.elim
theorem rts_fl {S : Hs} : ∀ {ds : List D}, D.flL ds = true → RTs S ds (ds.map .val)
  | [], _ => trivial
  | d :: ds, h => by
    rw [D.flL, Bool.and_eq_true] at h
    exact ⟨rt_flat h.1, rts_fl h.2⟩
structure Cx (N : Nat) (S : Hs) (ρ : PEnv) (σ : Env) : Prop where
  hi : HI S
  inv : Inv N S ρ σ
  le : N ≤ S.G.length
theorem Cx.ext {N : Nat} {S S' : Hs} {ρ : PEnv} {σ : Env} (h : Cx N S ρ σ) (e : Ext S.G.length S S') (hi : HI S') : Cx N S' ρ σ := ⟨hi, h.inv.ext h.le e, Nat.le_trans h.le e.len⟩
def CallOk (C : CallF) (C' : CallP) : Prop := ∀ (f : Str) (ds : List D) (rs : List R) (Q : R → Prop) (X : XP) (S : Hs), C' f rs Q X → HI S → RTs S ds rs → Sn S (C f ds S.G) (fun d S' => ∃ v, RT S' (.val d) v ∧ Q v) X
theorem bif_e {x : R} {A B : Prop} (h : Bif x A B) : (x = .val (.bl true) ∧ A) ∨ (x = .val (.bl false) ∧ B) := by
  cases x with
  | val d => cases d with
    | bl t => cases t with
      | true => exact .inl ⟨rfl, h⟩
      | false => exact .inr ⟨rfl, h⟩
    | _ => exact h.elim
  | _ => exact h.elim
theorem rt_sc {S : Hs} {x : R} {a : D} (h : RT S x (.val a)) (f : a.fl = true) : x = .val a := by
  obtain ⟨d, rfl, hd, _⟩ := h
  rw [rel_fl f hd]
section
variable {C : CallF} {C' : CallP} {Γ : Str → Option D} {N : Nat}
theorem look_s {a : E} {ρ : PEnv} {σ : Env} {S : Hs} {Q : R → Prop} {X : XP} {k : (R → Prop) → Prop} (c : Cx N S ρ σ)
    (hk : a.isVar = false → k Q → Sn S (ev C Γ a σ S.G) (fun x S' => ∃ v, RT S' x v ∧ Q v) X) (h : plook ρ a k Q) :
    Sn S (ev C Γ a σ S.G) (fun x S' => ∃ v, RX S' x v ∧ (a.isVar = true → ∃ d, x = .val d) ∧ Q v) X := by
  have gen : a.isVar = false → k Q → Sn S (ev C Γ a σ S.G) (fun x S' => ∃ v, RX S' x v ∧ (a.isVar = true → ∃ d, x = .val d) ∧ Q v) X := fun e q =>
    sn_imp (hk e q) fun x S' _ hi ⟨v, h1, h2⟩ => ⟨v, h1.rx hi, fun z => (by rw [e] at z; cases z), h2⟩
  cases a with
  | var i =>
    simp only [plook] at h
    cases e : ρ[i]? with
    | none => rw [e] at h; exact h.elim
    | some o =>
      cases o with
      | none => rw [e] at h; exact h.elim
      | some p =>
        obtain ⟨t, r⟩ := p
        rw [e] at h
        cases t with
        | fz =>
          obtain ⟨d, h1, h2⟩ := c.inv.fz i r e
          refine sn_eq c.hi (a := .val d) (by rw [ev, h1]; rfl) ⟨r, h2.rx c.hi, fun _ => ⟨d, rfl⟩, h⟩
        | ow =>
          rcases c.inv.ow i r e with ⟨d, rfl, h1, h2⟩ | ⟨n, h1, h2, h3⟩
          · exact sn_eq c.hi (a := .val d) (by rw [ev, h2]; rfl) ⟨_, (rt_flat h1).rx c.hi, fun _ => ⟨d, rfl⟩, h⟩
          · refine sn_eq c.hi (a := .val (.ref n)) (by rw [ev, h1]; rfl) ⟨r, ?_, fun _ => ⟨_, rfl⟩, h⟩
            cases r with
            | newL vs => exact ⟨vs, flL_rel h3.2, .inr ⟨n, rfl, ⟨h2.2.1, h2.2.2.2⟩, h3.1⟩⟩
            | newD t kvs => exact ⟨kvs, ⟨rfl, h3.2.1, flL_rel h3.2.2⟩, .inr ⟨n, rfl, ⟨h2.2.1, h2.2.2.2⟩, h3.1⟩⟩
            | _ => exact h3.elim
        | ns => exact h.elim
  | _ => exact gen rfl h
end
end LK

set_option Elab.async false
set_option linter.all false
set_option autoImplicit false
set_option maxRecDepth 100000
set_option maxHeartbeats 2000000
/-! PkExp2: expressions. -/
namespace LK
open PySem
section
variable {C : CallF} {C' : CallP} {Γ : Str → Option D} {N : Nat}
theorem sn_wp {S : Hs} {r r0 : Res R} {Q : R → Prop} {X : XP} (hi : HI S) (h : ∃ q z, r = .ok q S.G ∧ RT S q z ∧ Q z) : Sn S r (fun x S' => ∃ v, RT S' x v ∧ Q v) X := by
  obtain ⟨q, z, e, h1, h2⟩ := h
  exact sn_eq hi e ⟨z, h1, h2⟩
theorem part_s {e : E} {f : Hpp → Res R} {k : (R → Prop) → Prop} {Q : Option Int → Prop} {S : Hs} {X : XP} (hi : HI S) (hk : ∀ Q, k Q → Sn S (f S.G) (fun x S' => ∃ v, RT S' x v ∧ Q v) X) (h : ppart e k Q) : Sn S (partF e f S.G) (fun o S' => Q o) X := by
  have gen : (match e with
    | .non => true
    | _ => false) = false → Sn S (partF e f S.G) (fun o S' => Q o) X := fun he => by
    have h1 : k fun r => match r with
      | .val (.int i) => Q (some i)
      | _ => False := by cases e <;> first | exact h | cases he
    have h2 : partF e f S.G = (f S.G).bind fun r G1 => match r with
      | .val (.int i) => .ok (some i) G1
      | _ => .bad := by cases e <;> first | rfl | cases he
    rw [h2]
    refine sn_bind (hk _ h1) fun x S' ex hi' ⟨v, r, q⟩ => ?_
    cases v with
    | val d => cases d with
      | int i =>
        rw [rt_sc r rfl]
        exact sn_ok hi' q
      | _ => exact q.elim
    | _ => exact q.elim
  cases e with
  | non => exact sn_ok hi h
  | _ => exact gen rfl
mutual
theorem pe_s (hC : CallOk C C') (hΓ : ∀ x d, Γ x = some d → d.fl = true) : ∀ (e : E) {ρ : PEnv} {σ : Env} {S : Hs} {Q : R → Prop} {X : XP}, pe C' Γ e ρ Q X → Cx N S ρ σ → Sn S (ev C Γ e σ S.G) (fun x S' => ∃ v, RT S' x v ∧ Q v) X
  | .int i, ρ, σ, S, Q, X, h, c => by rw [pe] at h; exact sn_eq c.hi (by rw [ev]; rfl) ⟨_, rt_flat rfl, h⟩
  | .bl i, ρ, σ, S, Q, X, h, c => by rw [pe] at h; exact sn_eq c.hi (by rw [ev]; rfl) ⟨_, rt_flat rfl, h⟩
  | .non, ρ, σ, S, Q, X, h, c => by rw [pe] at h; exact sn_eq c.hi (by rw [ev]; rfl) ⟨_, rt_flat rfl, h⟩
  | .str i, ρ, σ, S, Q, X, h, c => by rw [pe] at h; exact sn_eq c.hi (by rw [ev]; rfl) ⟨_, rt_flat rfl, h⟩
  | .var i, ρ, σ, S, Q, X, h, c => by
    rw [pe] at h
    cases e : ρ[i]? with
    | none => rw [e] at h; exact h.elim
    | some o => cases o with
      | none => rw [e] at h; exact h.elim
      | some p =>
        obtain ⟨t, r⟩ := p
        rw [e] at h
        cases t with
        | fz =>
          obtain ⟨d, h1, h2⟩ := c.inv.fz i r e
          exact sn_eq c.hi (a := .val d) (by rw [ev, h1]; rfl) ⟨r, h2, h⟩
        | _ => exact h.elim
  | .glob x, ρ, σ, S, Q, X, h, c => by
    rw [pe] at h
    cases e : Γ x with
    | none => rw [e] at h; exact h.elim
    | some d =>
      rw [e] at h
      exact sn_eq c.hi (a := .val d) (by rw [ev, e]; rfl) ⟨_, rt_flat (hΓ x d e), h⟩
  | .tup es, ρ, σ, S, Q, X, h, c => by
    rw [pe] at h
    rw [ev]
    exact sn_bind (pes_s hC hΓ es h c) fun ds S' ex hi ⟨vs, r, q⟩ => sn_eq hi (a := .val (.tup ds)) rfl ⟨_, rt_tup r, q⟩
  | .lst es, ρ, σ, S, Q, X, h, c => by
    rw [pe] at h
    rw [ev]
    exact sn_bind (pes_s hC hΓ es h c) fun ds S' ex hi ⟨vs, r, q⟩ => sn_eq hi (a := .newL ds) rfl ⟨_, rt_new r, q⟩
  | .dnew t, ρ, σ, S, Q, X, h, c => by
    rw [pe] at h
    exact sn_eq c.hi (a := .newD t []) (by rw [ev]) ⟨.newD t [], ⟨[], ⟨rfl, rfl, relL_nil⟩, .inl rfl⟩, h⟩
  | .bin op a b, ρ, σ, S, Q, X, h, c => by
    rw [pe] at h
    rw [ev]
    refine sn_bind (look_s c (fun _ q => pe_s hC hΓ a q c) h) fun x S1 e1 hi1 ⟨v, r1, _, q⟩ => ?_
    refine sn_bind (look_s (c.ext e1 hi1) (fun _ q => pe_s hC hΓ b q (c.ext e1 hi1)) q) fun y S2 e2 hi2 ⟨w, r2, _, q⟩ => ?_
    exact sn_wp (r0 := .bad) hi2 (bin_sim (RX.ext e2 r1) r2 q)
  | .neg a, ρ, σ, S, Q, X, h, c => by
    rw [pe] at h
    rw [ev]
    refine sn_bind (pe_s hC hΓ a h c) fun x S1 e1 hi1 ⟨v, r1, q⟩ => ?_
    cases v with
    | val d => cases d with
      | int i => rw [rt_sc r1 rfl]; exact sn_eq hi1 rfl ⟨_, rt_flat rfl, q⟩
      | _ => exact q.elim
    | _ => exact q.elim
  | .cmp op a b, ρ, σ, S, Q, X, h, c => by
    rw [pe] at h
    rw [ev]
    refine sn_bind (look_s c (fun _ q => pe_s hC hΓ a q c) h) fun x S1 e1 hi1 ⟨v, r1, _, q⟩ => ?_
    refine sn_bind (look_s (c.ext e1 hi1) (fun _ q => pe_s hC hΓ b q (c.ext e1 hi1)) q) fun y S2 e2 hi2 ⟨w, r2, hv, q⟩ => ?_
    cases e : cmpP b.isVar op v w with
    | none => rw [e] at q; exact q.elim
    | some t =>
      rw [e] at q
      exact sn_eq hi2 (a := .val (.bl t)) (by rw [cmp_sim (RX.ext e2 r1) r2 hv e]; rfl) ⟨_, rt_flat rfl, q⟩
  | .chain o p a b d, ρ, σ, S, Q, X, h, c => by
    rw [pe] at h
    rw [ev]
    refine sn_bind (pe_s hC hΓ a h c) fun x S1 e1 hi1 ⟨v, r1, q⟩ => ?_
    refine sn_bind (pe_s hC hΓ b q (c.ext e1 hi1)) fun y S2 e2 hi2 ⟨w, r2, q⟩ => ?_
    cases e : cmpP false o v w with
    | none => rw [e] at q; exact q.elim
    | some t =>
      rw [e] at q
      rw [cmp_sim ((RT.ext e2 r1).rx hi2) (r2.rx hi2) (fun z => by cases z) e]
      cases t with
      | false => exact sn_eq hi2 rfl ⟨_, rt_flat rfl, q⟩
      | true =>
        refine sn_bind (pe_s hC hΓ d q ((c.ext e1 hi1).ext e2 hi2)) fun z S3 e3 hi3 ⟨u, r3, q⟩ => ?_
        cases e : cmpP false p w u with
        | none => rw [e] at q; exact q.elim
        | some t =>
          rw [e] at q
          exact sn_eq hi3 (a := .val (.bl t)) (by rw [cmp_sim ((RT.ext e3 r2).rx hi3) (r3.rx hi3) (fun z => by cases z) e]; rfl) ⟨_, rt_flat rfl, q⟩
  | .and a b, ρ, σ, S, Q, X, h, c => by
    rw [pe] at h
    rw [ev]
    refine sn_bind (pe_s hC hΓ a h c) fun x S1 e1 hi1 ⟨v, r1, q⟩ => ?_
    rcases bif_e q with ⟨rfl, q⟩ | ⟨rfl, q⟩ <;> rw [rt_sc r1 rfl]
    · exact pe_s hC hΓ b q (c.ext e1 hi1)
    · exact sn_eq hi1 rfl ⟨_, rt_flat rfl, q⟩
  | .or a b, ρ, σ, S, Q, X, h, c => by
    rw [pe] at h
    rw [ev]
    refine sn_bind (pe_s hC hΓ a h c) fun x S1 e1 hi1 ⟨v, r1, q⟩ => ?_
    rcases bif_e q with ⟨rfl, q⟩ | ⟨rfl, q⟩ <;> rw [rt_sc r1 rfl]
    · exact sn_eq hi1 rfl ⟨_, rt_flat rfl, q⟩
    · exact pe_s hC hΓ b q (c.ext e1 hi1)
  | .not a, ρ, σ, S, Q, X, h, c => by
    rw [pe] at h
    rw [ev]
    refine sn_bind (pe_s hC hΓ a h c) fun x S1 e1 hi1 ⟨v, r1, q⟩ => ?_
    rcases bif_e q with ⟨rfl, q⟩ | ⟨rfl, q⟩ <;> rw [rt_sc r1 rfl]
    · exact sn_eq hi1 rfl ⟨_, rt_flat rfl, q⟩
    · exact sn_eq hi1 rfl ⟨_, rt_flat rfl, q⟩
  | .ite t a b, ρ, σ, S, Q, X, h, c => by
    rw [pe] at h
    rw [ev]
    refine sn_bind (pe_s hC hΓ t h c) fun x S1 e1 hi1 ⟨v, r1, q⟩ => ?_
    rcases bif_e q with ⟨rfl, q⟩ | ⟨rfl, q⟩ <;> rw [rt_sc r1 rfl]
    · exact pe_s hC hΓ a q (c.ext e1 hi1)
    · exact pe_s hC hΓ b q (c.ext e1 hi1)
  | .idx a i, ρ, σ, S, Q, X, h, c => by
    rw [pe] at h
    rw [ev]
    refine sn_bind (look_s c (fun _ q => pe_s hC hΓ a q c) h) fun x S1 e1 hi1 ⟨v, r1, hv, q⟩ => ?_
    refine sn_bind (pe_s hC hΓ i q (c.ext e1 hi1)) fun y S2 e2 hi2 ⟨w, r2, q⟩ => ?_
    cases e : idxP a.isVar v w with
    | none => rw [e] at q; exact q.elim
    | some d =>
      rw [e] at q
      obtain ⟨d', h1, h2⟩ := idx_sim (RX.ext e2 r1) (r2.rx hi2) hv e
      exact sn_eq hi2 h1 ⟨_, rt_toR h2, q⟩
  | .slc a lo hi, ρ, σ, S, Q, X, h, c => by
    rw [pe] at h
    rw [ev]
    refine sn_bind (look_s c (fun _ q => pe_s hC hΓ a q c) h) fun x S1 e1 hi1 ⟨v, r1, hv, q⟩ => ?_
    have c1 := c.ext e1 hi1
    refine sn_bind (part_s hi1 (fun Q q => pe_s hC hΓ lo q c1) q) fun l S2 e2 hi2 q => ?_
    have c2 := c1.ext e2 hi2
    refine sn_bind (part_s hi2 (fun Q q => pe_s hC hΓ hi q c2) q) fun m S3 e3 hi3 q => ?_
    exact sn_wp (r0 := .bad) hi3 (cut_sim (RX.ext e3 (RX.ext e2 r1)) q)
  | .call f es ks dd, ρ, σ, S, Q, X, h, c => by
    rw [pe] at h
    rw [ev]
    refine sn_bind (pers_s hC hΓ es h c) fun ds S1 e1 hi1 ⟨rs, r1, q⟩ => ?_
    refine sn_bind (pers_s hC hΓ ks q (c.ext e1 hi1)) fun zs S2 e2 hi2 ⟨ts, r2, q⟩ => ?_
    refine sn_bind (hC f _ _ _ _ S2 q.2 hi2 (rts_append (rts_append (r1.ext e2) r2) (rts_fl q.1))) fun d S3 e3 hi3 ⟨v, r3, q⟩ => ?_
    exact sn_eq hi3 (a := .val d) rfl ⟨v, r3, q⟩
  | .len a, ρ, σ, S, Q, X, h, c => by
    rw [pe] at h
    rw [ev]
    refine sn_bind (look_s c (fun _ q => pe_s hC hΓ a q c) h) fun x S1 e1 hi1 ⟨v, r1, hv, q⟩ => ?_
    cases e : lenP v with
    | none => rw [e] at q; exact q.elim
    | some n =>
      rw [e] at q
      exact sn_eq hi1 (len_sim r1 e) ⟨_, rt_flat rfl, q⟩
  | .abs a, ρ, σ, S, Q, X, h, c => by
    rw [pe] at h
    rw [ev]
    refine sn_bind (pe_s hC hΓ a h c) fun x S1 e1 hi1 ⟨v, r1, q⟩ => ?_
    cases v with
    | val d => cases d with
      | int i => rw [rt_sc r1 rfl]; exact sn_eq hi1 rfl ⟨_, rt_flat rfl, q⟩
      | _ => exact q.elim
    | _ => exact q.elim
  | .int1 a, ρ, σ, S, Q, X, h, c => by
    rw [pe] at h
    rw [ev]
    refine sn_bind (pe_s hC hΓ a h c) fun x S1 e1 hi1 ⟨v, r1, q⟩ => ?_
    cases v with
    | val d => cases d with
      | int i => rw [rt_sc r1 rfl]; exact sn_eq hi1 rfl ⟨_, rt_flat rfl, q⟩
      | bl i => rw [rt_sc r1 rfl]; exact sn_eq hi1 rfl ⟨_, rt_flat rfl, q⟩
      | _ => exact q.elim
    | _ => exact q.elim
  | .min2 a b, ρ, σ, S, Q, X, h, c => by
    rw [pe] at h
    rw [ev]
    refine sn_bind (pe_s hC hΓ a h c) fun x S1 e1 hi1 ⟨v, r1, q⟩ => ?_
    refine sn_bind (pe_s hC hΓ b q (c.ext e1 hi1)) fun y S2 e2 hi2 ⟨w, r2, q⟩ => ?_
    split at q
    · rw [rt_sc r1 rfl, rt_sc r2 rfl]; exact sn_eq hi2 rfl ⟨_, rt_flat rfl, q⟩
    · exact q.elim
  | .max2 a b, ρ, σ, S, Q, X, h, c => by
    rw [pe] at h
    rw [ev]
    refine sn_bind (pe_s hC hΓ a h c) fun x S1 e1 hi1 ⟨v, r1, q⟩ => ?_
    refine sn_bind (pe_s hC hΓ b q (c.ext e1 hi1)) fun y S2 e2 hi2 ⟨w, r2, q⟩ => ?_
    split at q
    · rw [rt_sc r1 rfl, rt_sc r2 rfl]; exact sn_eq hi2 rfl ⟨_, rt_flat rfl, q⟩
    · exact q.elim
  | .isi a t, ρ, σ, S, Q, X, h, c => by
    rw [pe] at h
    rw [ev]
    refine sn_bind (look_s c (fun _ q => pe_s hC hΓ a q c) h) fun x S1 e1 hi1 ⟨v, r1, hv, q⟩ => ?_
    cases e : isiR v t [] with
    | none => rw [e] at q; exact q.elim
    | some b =>
      rw [e] at q
      exact sn_eq hi1 (a := .val (.bl b)) (by rw [isi_sim r1 e]; rfl) ⟨_, rt_flat rfl, q⟩
  | .seq b a, ρ, σ, S, Q, X, h, c => by
    rw [pe] at h
    rw [ev]
    refine sn_bind (look_s c (fun _ q => pe_s hC hΓ a q c) h) fun x S1 e1 hi1 ⟨v, r1, hv, q⟩ => ?_
    exact sn_wp (r0 := .bad) hi1 (seq_sim r1 q)
  | .lrng a b, ρ, σ, S, Q, X, h, c => by
    rw [pe] at h
    rw [ev]
    refine sn_bind (pe_s hC hΓ a h c) fun x S1 e1 hi1 ⟨v, r1, q⟩ => ?_
    refine sn_bind (pe_s hC hΓ b q (c.ext e1 hi1)) fun y S2 e2 hi2 ⟨w, r2, q⟩ => ?_
    split at q
    · rw [rt_sc r1 rfl, rt_sc r2 rfl]
      dsimp only
      rw [if_pos q.1]
      exact sn_eq hi2 rfl ⟨_, rt_new (flL_rel (by rw [flL_iff]; intro d hd; obtain ⟨k, _, rfl⟩ := List.mem_map.mp hd; rfl)), q.2⟩
    · exact q.elim
  | .comp e tg i ifs, ρ, σ, S, Q, X, h, c => by
    rw [pe] at h
    rw [ev]
    refine sn_bind (pi_s hC hΓ true i h c) fun w S1 e1 hi1 ⟨vs, ⟨ds, h1, h2⟩, hl, q⟩ => ?_
    have c1 := c.ext e1 hi1
    have hw : ∀ S, Ext S1.G.length S1 S → HI S → Its w ds S.G := fun S e _ => h2 S.G fun n hn => e.same n hn.1 hn.2
    refine sn_bind (comp_s (S0 := S1) hw (by rw [relL_len h1]; exact hl) (fun S d v k ex hi r q => ?_) vs _ 0 [] [] S1 Ext.refl hi1 h1 (Nat.zero_le _) relL_nil (by rw [(hw S1 Ext.refl hi1).2, relL_len h1]; omega) q) fun xs S2 e2 hi2 ⟨ys, r, q⟩ => sn_eq hi2 (a := .newL xs) rfl ⟨_, rt_new r, q⟩
    have cS := c1.ext ex hi
    obtain ⟨σ1, ρ1, b1, b2, b3⟩ := bind_s cS.inv (rt_toR r) q
    unfold compV
    rw [b1]
    have cb : Cx N S ρ1 σ1 := ⟨hi, b2, cS.le⟩
    refine sn_bind (sn_noEx (pifs_s hC hΓ ifs b3 cb)) fun t S3 e3 hi3 q => ?_
    cases t with
    | false => exact sn_ok hi3 ⟨(fun d z => by cases z), fun _ => q⟩
    | true =>
      rw [if_pos rfl] at q
      refine sn_bind (X := noX) (sn_noEx (X := noX) (sn_bind (pe_s hC hΓ e q (cb.ext e3 hi3)) fun x S4 e4 hi4 ⟨v, r4, q⟩ => sn_imp (toD_rt hi4 r4) fun d S5 _ _ r5 => rt_pd r5 q)) fun d S5 e5 hi5 ⟨w, r5, q⟩ => ?_
      exact sn_ok hi5 ⟨fun d' z => by cases z; exact ⟨w, r5, q⟩, fun z => by cases z⟩
  | .dcomp t ke e tg i ifs, ρ, σ, S, Q, X, h, c => by
    rw [pe] at h
    rw [ev]
    refine sn_bind (pi_s hC hΓ true i h c) fun w S1 e1 hi1 ⟨vs, ⟨ds, h1, h2⟩, q⟩ => ?_
    have c1 := c.ext e1 hi1
    have hw : ∀ S, Ext S1.G.length S1 S → HI S → Its w ds S.G := fun S e _ => h2 S.G fun n hn => e.same n hn.1 hn.2
    refine sn_bind (dcomp_s (S0 := S1) hw (fun S d v k ex hi r q => ?_) vs _ 0 [] [] S1 Ext.refl hi1 h1 ⟨rfl, rfl, relL_nil⟩ (by rw [(hw S1 Ext.refl hi1).2, relL_len h1]; omega) q) fun xs S2 e2 hi2 ⟨ys, r, q⟩ => sn_eq hi2 (a := .newD false xs) rfl ⟨.newD false ys, ⟨xs, r, .inl rfl⟩, q⟩
    have cS := c1.ext ex hi
    obtain ⟨σ1, ρ1, b1, b2, b3⟩ := bind_s cS.inv (rt_toR r) q
    unfold dcompV
    rw [b1]
    have cb : Cx N S ρ1 σ1 := ⟨hi, b2, cS.le⟩
    refine sn_bind (sn_noEx (pifs_s hC hΓ ifs b3 cb)) fun t S3 e3 hi3 q => ?_
    have cb3 := cb.ext e3 hi3
    cases t with
    | false => exact sn_ok hi3 ⟨(fun d d' z => by cases z), fun _ => q⟩
    | true =>
      rw [if_pos rfl] at q
      refine sn_bind (X := noX) (sn_noEx (X := noX) (sn_bind (pe_s hC hΓ ke q cb3) fun x S4 e4 hi4 ⟨v, r4, q⟩ => sn_imp (toD_rt hi4 r4) fun d S5 e5 _ r5 => (show ∃ w, Rl S5 d w ∧ _ from rt_pd r5 q))) fun d S5 e5 hi5 ⟨w, r5, q⟩ => ?_
      refine sn_bind (X := noX) (sn_noEx (X := noX) (sn_bind (pe_s hC hΓ e q (cb3.ext e5 hi5)) fun x S4 e4 hi4 ⟨v, r4, q⟩ => sn_imp (toD_rt hi4 r4) fun d S5 _ _ r5 => (show ∃ w, Rl S5 d w ∧ _ from rt_pd r5 q))) fun d' S6 e6 hi6 ⟨w', r6, q⟩ => ?_
      exact sn_ok hi6 ⟨fun a b z => by cases z; exact ⟨w, w', r5.ext e6, r6, q⟩, fun z => by cases z⟩
  | .meth0 _ _, ρ, σ, S, Q, X, h, c => by rw [pe] at h; exact h.elim
  | .meth1 _ _ _, ρ, σ, S, Q, X, h, c => by rw [pe] at h; exact h.elim
theorem pes_s (hC : CallOk C C') (hΓ : ∀ x d, Γ x = some d → d.fl = true) : ∀ (e : Es) {ρ : PEnv} {σ : Env} {S : Hs} {Q : List D → Prop} {X : XP}, pes C' Γ e ρ Q X → Cx N S ρ σ → Sn S (evs C Γ e σ S.G) (fun ds S' => ∃ vs, RlL S' ds vs ∧ Q vs) X
  | .nil, ρ, σ, S, Q, X, h, c => by rw [pes] at h; exact sn_eq c.hi (by rw [evs]) ⟨[], relL_nil, h⟩
  | .cons e r, ρ, σ, S, Q, X, h, c => by
    rw [pes] at h
    rw [evs]
    refine sn_bind (sn_bind (pe_s hC hΓ e h c) fun x S1 e1 hi1 ⟨v, r1, q⟩ => sn_imp (toD_rt hi1 r1) fun d S2 e2 _ r2 => (show ∃ w, Rl S2 d w ∧ _ from rt_pd r2 q)) fun d S2 e2 hi2 ⟨w, r2, q⟩ => ?_
    refine sn_bind (pes_s hC hΓ r q (c.ext e2 hi2)) fun ds S3 e3 hi3 ⟨vs, r3, q⟩ => ?_
    exact sn_ok hi3 ⟨_, relL_cons (r2.ext e3) r3, q⟩
theorem pers_s (hC : CallOk C C') (hΓ : ∀ x d, Γ x = some d → d.fl = true) : ∀ (e : Es) {ρ : PEnv} {σ : Env} {S : Hs} {Q : List R → Prop} {X : XP}, pers C' Γ e ρ Q X → Cx N S ρ σ → Sn S (evs C Γ e σ S.G) (fun ds S' => ∃ vs, RTs S' ds vs ∧ Q vs) X
  | .nil, ρ, σ, S, Q, X, h, c => by rw [pers] at h; exact sn_eq c.hi (by rw [evs]) ⟨[], (show RTs S [] [] from trivial), h⟩
  | .cons e r, ρ, σ, S, Q, X, h, c => by
    rw [pers] at h
    rw [evs]
    refine sn_bind (Q := fun d S' => ∃ v, RT S' (.val d) v ∧ pers C' Γ r ρ (fun ds => Q (v :: ds)) X) (sn_bind (pe_s hC hΓ e h c) fun x S1 e1 hi1 ⟨v, r1, q⟩ => sn_imp (toD_rt hi1 r1) fun d S2 e2 _ r2 => ⟨v, r2, q⟩) fun d S2 e2 hi2 ⟨w, r2, q⟩ => ?_
    refine sn_bind (pers_s hC hΓ r q (c.ext e2 hi2)) fun ds S3 e3 hi3 ⟨vs, r3, q⟩ => ?_
    exact sn_ok hi3 ⟨w :: vs, (show RTs S3 (d :: ds) (w :: vs) from ⟨RT.ext e3 r2, r3⟩), q⟩
theorem pifs_s (hC : CallOk C C') (hΓ : ∀ x d, Γ x = some d → d.fl = true) : ∀ (e : Es) {ρ : PEnv} {σ : Env} {S : Hs} {Q : Bool → Prop}, pifs C' Γ e ρ Q → Cx N S ρ σ → Sn S (evIf C Γ e σ S.G) (fun b S' => Q b) noX
  | .nil, ρ, σ, S, Q, h, c => by rw [pifs] at h; exact sn_eq c.hi (by rw [evIf]) h
  | .cons e r, ρ, σ, S, Q, h, c => by
    rw [pifs] at h
    rw [evIf]
    refine sn_bind (pe_s hC hΓ e h c) fun x S1 e1 hi1 ⟨v, r1, q⟩ => ?_
    rcases bif_e q with ⟨rfl, q⟩ | ⟨rfl, q⟩ <;> rw [rt_sc r1 rfl]
    · exact pifs_s hC hΓ r q (c.ext e1 hi1)
    · exact sn_eq hi1 rfl q
theorem pi_s (hC : CallOk C C') (hΓ : ∀ x d, Γ x = some d → d.fl = true) : ∀ (lk : Bool) (i : I) {ρ : PEnv} {σ : Env} {S : Hs} {Q : List D → Prop} {X : XP}, pi C' Γ lk i ρ Q X → Cx N S ρ σ → Sn S (evI C Γ i σ S.G) (fun w S' => ∃ vs, WQ S' (if lk = true then fun n => n < S'.G.length ∧ ¬ S'.B n else S'.A) w vs ∧ Q vs) X
  | lk, .ex e, ρ, σ, S, Q, X, h, c => by
    rw [pi] at h
    rw [evI]
    cases lk with
    | true =>
      simp only [if_true] at h ⊢
      refine sn_bind (look_s c (fun _ q => pe_s hC hΓ e q c) h) fun x S1 e1 hi1 ⟨v, r1, hv, q⟩ => ?_
      cases e2 : itemsP v with
      | none => rw [e2] at q; exact q.elim
      | some vs =>
        rw [e2] at q
        obtain ⟨w, h1, h2⟩ := walk_s r1 e2
        exact sn_eq hi1 h1 ⟨vs, h2, q⟩
    | false =>
      simp only [Bool.false_eq_true, if_false] at h ⊢
      refine sn_bind (pe_s hC hΓ e h c) fun x S1 e1 hi1 ⟨v, r1, q⟩ => ?_
      cases e2 : itemsP v with
      | none => rw [e2] at q; exact q.elim
      | some vs =>
        rw [e2] at q
        obtain ⟨w, h1, h2⟩ := walk_s r1 e2
        exact sn_eq hi1 h1 ⟨vs, h2, q⟩
  | lk, .rng1 a, ρ, σ, S, Q, X, h, c => by
    rw [pi] at h
    rw [evI]
    refine sn_bind (pe_s hC hΓ a h c) fun x S1 e1 hi1 ⟨v, r1, q⟩ => ?_
    cases v with
    | val d => cases d with
      | int i =>
        rw [rt_sc r1 rfl]
        dsimp only
        rw [if_pos q.1]
        refine sn_eq hi1 rfl ⟨_, ?_, q.2⟩
        have := wq_rng (S := S1) (p := (if lk = true then fun n => n < S1.G.length ∧ ¬ S1.B n else S1.A)) (lo := 0) (n := i.toNat)
        simpa using this
      | _ => exact q.elim
    | _ => exact q.elim
  | lk, .rng2 a b, ρ, σ, S, Q, X, h, c => by
    rw [pi] at h
    rw [evI]
    refine sn_bind (pe_s hC hΓ a h c) fun x S1 e1 hi1 ⟨v, r1, q⟩ => ?_
    refine sn_bind (pe_s hC hΓ b q (c.ext e1 hi1)) fun y S2 e2 hi2 ⟨w, r2, q⟩ => ?_
    split at q
    · rw [rt_sc r1 rfl, rt_sc r2 rfl]
      dsimp only
      rw [if_pos q.1]
      exact sn_eq hi2 rfl ⟨_, wq_rng, q.2⟩
    · exact q.elim
  | lk, .enum e, ρ, σ, S, Q, X, h, c => by
    rw [pi] at h
    rw [evI]
    cases lk with
    | true =>
      simp only [if_true] at h ⊢
      refine sn_bind (look_s c (fun _ q => pe_s hC hΓ e q c) h) fun x S1 e1 hi1 ⟨v, r1, hv, q⟩ => ?_
      cases e2 : itemsP v with
      | none => rw [e2] at q; exact q.elim
      | some vs =>
        rw [e2] at q
        obtain ⟨w, h1, h2⟩ := walk_s r1 e2
        rw [h1]
        exact sn_eq hi1 rfl ⟨_, wq_enum h2, q⟩
    | false =>
      simp only [Bool.false_eq_true, if_false] at h ⊢
      refine sn_bind (pe_s hC hΓ e h c) fun x S1 e1 hi1 ⟨v, r1, q⟩ => ?_
      cases e2 : itemsP v with
      | none => rw [e2] at q; exact q.elim
      | some vs =>
        rw [e2] at q
        obtain ⟨w, h1, h2⟩ := walk_s r1 e2
        rw [h1]
        exact sn_eq hi1 rfl ⟨_, wq_enum h2, q⟩
  | lk, .zip a b, ρ, σ, S, Q, X, h, c => by
    rw [pi] at h
    rw [evI]
    have tup : ∀ {S : Hs} {p : Nat → Prop} {x v : R}, RQ S p x v → x.isTup = v.isTup := fun {S p x v} r => by
      cases v with
      | val a =>
        obtain ⟨d, rfl, r, _⟩ := r
        cases a <;> rw [Rl] at r <;> first
          | (subst r; rfl)
          | (obtain ⟨_, rfl, _⟩ := r; rfl)
          | (obtain ⟨_, _, rfl, _⟩ := r; rfl)
      | newS ds => obtain ⟨rfl, _⟩ := r; rfl
      | newL ds => obtain ⟨_, _, rfl | ⟨_, rfl, _⟩⟩ := r <;> rfl
      | newD t ds => obtain ⟨_, _, rfl | ⟨_, rfl, _⟩⟩ := r <;> rfl
    cases lk with
    | true =>
      simp only [if_true] at h ⊢
      refine sn_bind (look_s c (fun _ q => pe_s hC hΓ a q c) h) fun x S1 e1 hi1 ⟨v, r1, hv, q⟩ => ?_
      have c1 := c.ext e1 hi1
      refine sn_bind (look_s c1 (fun _ q => pe_s hC hΓ b q c1) q) fun y S2 e2 hi2 ⟨w, r2, hw, q⟩ => ?_
      have r1' := RX.ext e2 r1
      rw [if_pos (by rw [tup r1', tup r2]; exact q.1)]
      have q := q.2
      cases e3 : itemsP v with
      | none => rw [e3] at q; exact q.elim
      | some vs =>
        cases e4 : itemsP w with
        | none => rw [e3, e4] at q; exact q.elim
        | some ws =>
          rw [e3, e4] at q
          obtain ⟨w1, h1, h2⟩ := walk_s r1' e3
          obtain ⟨w2, h3, h4⟩ := walk_s r2 e4
          rw [h1]
          show Sn S2 (Res.bind (toWalk y S2.G) _) _ _
          rw [h3]
          exact sn_eq hi2 rfl ⟨_, wq_zip h2 h4, q⟩
    | false =>
      simp only [Bool.false_eq_true, if_false] at h ⊢
      refine sn_bind (pe_s hC hΓ a h c) fun x S1 e1 hi1 ⟨v, r1, q⟩ => ?_
      have c1 := c.ext e1 hi1
      refine sn_bind (pe_s hC hΓ b q c1) fun y S2 e2 hi2 ⟨w, r2, q⟩ => ?_
      have r1' := RT.ext e2 r1
      rw [if_pos (by rw [tup r1', tup r2]; exact q.1)]
      have q := q.2
      cases e3 : itemsP v with
      | none => rw [e3] at q; exact q.elim
      | some vs =>
        cases e4 : itemsP w with
        | none => rw [e3, e4] at q; exact q.elim
        | some ws =>
          rw [e3, e4] at q
          obtain ⟨w1, h1, h2⟩ := walk_s r1' e3
          obtain ⟨w2, h3, h4⟩ := walk_s r2 e4
          rw [h1]
          show Sn S2 (Res.bind (toWalk y S2.G) _) _ _
          rw [h3]
          exact sn_eq hi2 rfl ⟨_, wq_zip h2 h4, q⟩
  | lk, .items _, ρ, σ, S, Q, X, h, c => by rw [pi] at h; exact h.elim
end
end
end LK

set_option Elab.async false
set_option linter.all false
set_option autoImplicit false
set_option maxRecDepth 100000
set_option maxHeartbeats 2000000
/-! PkStm: statements: what is shown without a heap holds with one. -/
namespace LK
open PySem
section
variable {S S' S2 : Hs} {N : Nat} {ρ : PEnv} {σ : Env}
theorem inv_kill (h : Inv N S ρ σ) (j : Nat) : Inv N S (ρ.set j none) σ where
  len := by simp [h.len]
  fz := fun i r e => by
    rw [List.getElem?_set] at e
    split at e
    · split at e <;> cases e
    · exact h.fz i r e
  ow := fun i r e => by
    rw [List.getElem?_set] at e
    split at e
    · split at e <;> cases e
    · exact h.ow i r e
  ns := fun i r e => by
    rw [List.getElem?_set] at e
    split at e
    · split at e <;> cases e
    · exact h.ns i r e
  dj := fun i k r q n m hik e1 e2 => by
    rw [List.getElem?_set] at e1 e2
    split at e1
    · split at e1 <;> cases e1
    · split at e2
      · split at e2 <;> cases e2
      · exact h.dj i k r q n m hik e1 e2
theorem inv_kills : ∀ {js : List Nat} {ρ : PEnv}, Inv N S ρ σ → Inv N S (kill js ρ) σ
  | [], ρ, h => h
  | j :: js, ρ, h => inv_kills (js := js) (inv_kill h j)
theorem Cx.kill (h : Cx N S ρ σ) {js : List Nat} : Cx N S (kill js ρ) σ := ⟨h.hi, inv_kills h.inv, h.le⟩
/-- a name that holds a list alone -/
theorem inv_own (h : Inv N S ρ σ) {i n : Nat} {r : R} (hn : N ≤ n ∧ n < S.G.length ∧ ¬ S.A n ∧ ¬ S.B n) (ho : Ow S n r) (hd : ∀ (j : Nat) (q : R) (m : Nat), j ≠ i → ρ[j]? = some (some (.ow, q)) → σ[j]? = some (some (.ref m)) → m ≠ n) : Inv N S (ρ.set i (some (.ow, r))) (σ.set i (some (.ref n))) where
  len := by simp [h.len]
  fz := fun j r' e => by
    rw [List.getElem?_set] at e ⊢
    split at e
    · split at e <;> cases e
    · rename_i hij
      rw [if_neg hij]
      exact h.fz j r' e
  ow := fun j r' e => by
    rw [List.getElem?_set] at e ⊢
    split at e
    · rename_i hij
      subst hij
      split at e
      · rename_i hl
        cases e
        exact .inr ⟨n, by rw [if_pos rfl, if_pos (by rw [h.len]; exact hl)], hn, ho⟩
      · cases e
    · rename_i hij
      rw [if_neg hij]
      exact h.ow j r' e
  ns := fun j r' e => by
    rw [List.getElem?_set] at e
    split at e
    · split at e <;> cases e
    · exact h.ns j r' e
  dj := fun j k r' q' n' m hjk e1 e2 s1 s2 => by
    rw [List.getElem?_set] at e1 e2 s1 s2
    split at e1
    · rename_i hij
      subst hij
      rw [if_neg hjk] at e2 s2
      split at e1
      · rename_i hl
        rw [if_pos rfl, if_pos (by rw [h.len]; exact hl)] at s1
        cases s1
        exact fun z => hd k q' m (Ne.symm hjk) e2 s2 z.symm
      · cases e1
    · rename_i hij
      rw [if_neg hij] at s1
      split at e2
      · rename_i hik
        subst hik
        split at e2
        · rename_i hl
          rw [if_pos rfl, if_pos (by rw [h.len]; exact hl)] at s2
          cases s2
          exact hd j r' n' (Ne.symm hij) e1 s1
        · cases e2
      · rename_i hik
        rw [if_neg hik] at s2
        exact h.dj j k r' q' n' m hjk e1 e2 s1 s2
/-- a name that may hold a list alone, and holds data -/
theorem inv_ownv (h : Inv N S ρ σ) {i : Nat} {d : D} (hf : d.fl = true) : Inv N S (ρ.set i (some (.ow, .val d))) (σ.set i (some d)) where
  len := by simp [h.len]
  fz := fun j r' e => by
    rw [List.getElem?_set] at e ⊢
    split at e
    · split at e <;> cases e
    · rename_i hij
      rw [if_neg hij]
      exact h.fz j r' e
  ow := fun j r' e => by
    rw [List.getElem?_set] at e ⊢
    split at e
    · rename_i hij
      subst hij
      split at e
      · rename_i hl
        cases e
        exact .inl ⟨d, rfl, hf, by rw [if_pos rfl, if_pos (by rw [h.len]; exact hl)]⟩
      · cases e
    · rename_i hij
      rw [if_neg hij]
      exact h.ow j r' e
  ns := fun j r' e => by
    rw [List.getElem?_set] at e
    split at e
    · split at e <;> cases e
    · exact h.ns j r' e
  dj := fun j k r' q' n' m hjk e1 e2 s1 s2 => by
    rw [List.getElem?_set] at e1 e2 s1 s2
    split at e1
    · rename_i hij
      subst hij
      split at e1
      · rename_i hl
        rw [if_pos rfl, if_pos (by rw [h.len]; exact hl)] at s1
        cases s1
        simp [D.fl] at hf
      · cases e1
    · rename_i hij
      rw [if_neg hij] at s1
      split at e2
      · rename_i hik
        subst hik
        split at e2
        · rename_i hl
          rw [if_pos rfl, if_pos (by rw [h.len]; exact hl)] at s2
          cases s2
          simp [D.fl] at hf
        · cases e2
      · rename_i hik
        rw [if_neg hik] at s2
        exact h.dj j k r' q' n' m hjk e1 e2 s1 s2
/-- a new cell that is not shared -/
theorem new_own (hi : HI S) {c : Cell} (hc : c.low S.G.length = true) : Ext S.G.length S ⟨S.A, S.B, S.G ++ [c]⟩ ∧ HI ⟨S.A, S.B, S.G ++ [c]⟩ := by
  refine ⟨⟨by simp, fun n h => h, fun n h => h, fun n hn _ => List.getElem?_append_left hn, fun n h => List.getElem?_append_left (hi.al n h), fun n h => .inl h, fun n h => .inl h⟩, ⟨fun n h => ?_, fun n h => ?_, hi.ab, fun n d e => ?_⟩⟩
  · have := hi.al n h; simp; omega
  · obtain ⟨x, y, e⟩ := hi.bx n h
    exact ⟨x, y, by rw [List.getElem?_append_left (hi.bl h)]; exact e⟩
  · show d.low (S.G ++ [c]).length = true
    have e : (S.G ++ [c])[n]? = some d := e
    by_cases hn : n < S.G.length
    · rw [List.getElem?_append_left hn] at e
      exact clow_mono (by simp) (hi.low n d e)
    · have : n = S.G.length := by
        have := (List.getElem?_eq_some_iff.mp e).1
        simp at this
        omega
      subst this
      simp at e
      subst e
      exact clow_mono (by simp) hc
def R.cell : R → Cell
  | .newL ds => .lst ds
  | .newD t kvs => .dct t kvs
  | _ => .lst []
theorem flat_low {r : R} {n : Nat} (h : r.flat = true) : r.cell.low n = true := by
  cases r with
  | newL ds => exact flL_low h
  | newD t kvs =>
    rw [R.flat, Bool.and_eq_true] at h
    unfold R.cell Cell.low
    rw [List.all_eq_true]
    intro p hp
    rw [Bool.and_eq_true]
    exact ⟨fl_low (mem_fl h.1 (List.mem_map.mpr ⟨p, hp, rfl⟩)), fl_low (mem_fl h.2 (List.mem_map.mpr ⟨p, hp, rfl⟩))⟩
  | val d => rfl
  | newS d => rfl
def R.isC : R → Bool
  | .newL _ => true
  | .newD _ _ => true
  | _ => false
theorem ow_of {r : R} {n : Nat} (h : r.flat = true) (hc : r.isC = true) (e : S.G[n]? = some r.cell) : Ow S n r := by
  cases r with
  | newL ds => exact ⟨e, h⟩
  | newD t kvs => rw [R.flat, Bool.and_eq_true] at h; exact ⟨e, h.1, h.2⟩
  | _ => cases hc
theorem ow_at {r : R} {n : Nat} (h : Ow S n r) : S.G[n]? = some r.cell ∧ r.flat = true ∧ r.isC = true := by
  cases r with
  | newL ds => exact ⟨h.1, h.2, rfl⟩
  | newD t kvs => exact ⟨h.1, by rw [R.flat, h.2.1, h.2.2]; rfl, rfl⟩
  | _ => exact h.elim
/-- a list that a name alone holds is written -/
theorem own_upd (c : Cx N S ρ σ) {m n : Nat} {r0 r : R} (hm : ρ[m]? = some (some (.ow, r0))) (hs : σ[m]? = some (some (.ref n))) (hf : r.flat = true) (hc : r.isC = true) : Ext N S ⟨S.A, S.B, S.G.set n r.cell⟩ ∧ Cx N ⟨S.A, S.B, S.G.set n r.cell⟩ (ρ.set m (some (.ow, r))) σ := by
  have how : (N ≤ n ∧ n < S.G.length ∧ ¬ S.A n ∧ ¬ S.B n) ∧ Ow S n r0 := by
    rcases c.inv.ow m r0 hm with ⟨d, _, h1, h2⟩ | ⟨k, h1, h2⟩
    · rw [hs] at h2; cases h2; simp [D.fl] at h1
    · rw [hs] at h1; cases h1; exact h2
  obtain ⟨⟨h1, h2, h3, h4⟩, h5⟩ := how
  have ne : ∀ k, k ≠ n → (S.G.set n r.cell)[k]? = S.G[k]? := fun k hk => List.getElem?_set_ne (Ne.symm hk)
  have ext : Ext N S ⟨S.A, S.B, S.G.set n r.cell⟩ := ⟨by simp, fun k h => h, fun k h => h, fun k hk _ => ne k (by omega), fun k hk => ne k (fun e => h3 (e ▸ hk)), fun k h => .inl h, fun k h => .inl h⟩
  refine ⟨ext, ⟨⟨fun k h => by simpa using c.hi.al k h, fun k h => ?_, c.hi.ab, fun k d e => ?_⟩, ?_, by simpa using c.le⟩⟩
  · obtain ⟨x, y, e⟩ := c.hi.bx k h
    exact ⟨x, y, by rw [show (Hs.mk S.A S.B (S.G.set n r.cell)).G = S.G.set n r.cell from rfl, ne k (fun e => h4 (e ▸ h))]; exact e⟩
  · have e : (S.G.set n r.cell)[k]? = some d := e
    show d.low (S.G.set n r.cell).length = true
    rw [List.length_set]
    by_cases hk : k = n
    · subst hk
      rw [List.getElem?_set_self h2] at e
      cases e
      exact flat_low hf
    · rw [ne k hk] at e
      exact c.hi.low k d e
  · refine ⟨by simp [c.inv.len], fun i q e => ?_, fun i q e => ?_, fun i q e => ?_, fun i j q q' a b hij e1 e2 => ?_⟩
    · rw [List.getElem?_set] at e
      split at e
      · split at e <;> cases e
      · obtain ⟨d, g1, g2⟩ := c.inv.fz i q e
        exact ⟨d, g1, RT.ext ext g2⟩
    · rw [List.getElem?_set] at e
      split at e
      · rename_i him
        subst him
        split at e
        · cases e
          exact .inr ⟨n, hs, ⟨h1, by simpa using h2, h3, h4⟩, ow_of hf hc (List.getElem?_set_self h2)⟩
        · cases e
      · rename_i him
        rcases c.inv.ow i q e with g | ⟨k, g1, g2, g3⟩
        · exact .inl g
        · have hk : k ≠ n := c.inv.dj i m q r0 k n (Ne.symm him) e hm g1 hs
          refine .inr ⟨k, g1, ⟨g2.1, by simpa using g2.2.1, g2.2.2⟩, ?_⟩
          have g := ow_at g3
          exact ow_of g.2.1 g.2.2 (by rw [show (Hs.mk S.A S.B (S.G.set n r.cell)).G = S.G.set n r.cell from rfl, ne k hk]; exact g.1)
    · rw [List.getElem?_set] at e
      split at e
      · split at e <;> cases e
      · exact c.inv.ns i q e
    · have k1 : ∀ {i : Nat} {q : R}, (ρ.set m (some (.ow, r)))[i]? = some (some (.ow, q)) → ∃ q, ρ[i]? = some (some (.ow, q)) := fun {i q} e => by
        rw [List.getElem?_set] at e
        split at e
        · rename_i z
          subst z
          exact ⟨r0, hm⟩
        · exact ⟨q, e⟩
      obtain ⟨q1, e1⟩ := k1 e1
      obtain ⟨q2, e2⟩ := k1 e2
      exact c.inv.dj i j q1 q2 a b hij e1 e2
/-- names whose lists are not written any more -/
theorem frz_s (c : Cx N S ρ σ) {ρ' : PEnv} (p : Nat → Bool) (hl : ρ'.length = ρ.length) (hp : ∀ i, p i = false → ρ'[i]? = ρ[i]?) (hq : ∀ i, p i = true → ρ'[i]? = (ρ[i]?).map frzO) : ∃ S' : Hs, S'.G = S.G ∧ Ext N S S' ∧ Cx N S' ρ' σ := by
  let A' : Nat → Prop := fun n => S.A n ∨ (n < S.G.length ∧ N ≤ n ∧ ¬ S.B n ∧ ∃ i r, p i = true ∧ ρ[i]? = some (some (.ow, r)) ∧ σ[i]? = some (some (.ref n)))
  have ext : Ext N S ⟨A', S.B, S.G⟩ := ⟨Nat.le_refl _, fun n h => .inl h, fun n h => h, fun _ _ _ => rfl, fun _ _ => rfl, fun n h => h.imp_right fun h => h.2.1, fun n h => .inl h⟩
  refine ⟨⟨A', S.B, S.G⟩, rfl, ext, ⟨⟨fun n h => ?_, c.hi.bx, fun n h b => ?_, c.hi.low⟩, ⟨by rw [hl]; exact c.inv.len, fun i r e => ?_, fun i r e => ?_, fun i r e => ?_, fun i j r q n m hij e1 e2 => ?_⟩, c.le⟩⟩
  · rcases h with h | h
    · exact c.hi.al n h
    · exact h.1
  · rcases h with h | h
    · exact c.hi.ab n h b
    · exact h.2.2.1 b
  · cases hpi : p i with
    | false =>
      rw [hp i hpi] at e
      obtain ⟨d, h1, h2⟩ := c.inv.fz i r e
      exact ⟨d, h1, RT.ext ext h2⟩
    | true =>
      rw [hq i hpi] at e
      cases e2 : ρ[i]? with
      | none => rw [e2] at e; cases e
      | some o =>
        rw [e2] at e
        cases o with
        | none => cases e
        | some q =>
          obtain ⟨t, q⟩ := q
          simp only [Option.map_some, frzO, Option.some.injEq, Prod.mk.injEq, true_and] at e
          subst e
          cases t with
          | fz =>
            obtain ⟨d, h1, h2⟩ := c.inv.fz i q e2
            exact ⟨d, h1, RT.ext ext h2⟩
          | ow =>
            rcases c.inv.ow i q e2 with ⟨d, rfl, h1, h2⟩ | ⟨n, h1, h2, h3⟩
            · exact ⟨d, h2, rt_flat h1⟩
            · have hA : A' n := .inr ⟨h2.2.1, h2.1, h2.2.2.2, i, q, hpi, e2, h1⟩
              refine ⟨_, h1, ?_⟩
              have g := ow_at h3
              cases q with
              | newL vs => exact ⟨vs, flL_rel h3.2, .inr ⟨n, rfl, hA, h3.1⟩⟩
              | newD t kvs => exact ⟨kvs, ⟨rfl, h3.2.1, flL_rel h3.2.2⟩, .inr ⟨n, rfl, hA, h3.1⟩⟩
              | _ => exact h3.elim
          | ns => exact absurd e2 (c.inv.ns i q)
  · cases hpi : p i with
    | false =>
      rw [hp i hpi] at e
      rcases c.inv.ow i r e with h | ⟨n, h1, h2, h3⟩
      · exact .inl h
      · refine .inr ⟨n, h1, ⟨h2.1, h2.2.1, fun a => ?_, h2.2.2.2⟩, ?_⟩
        · rcases a with a | ⟨_, _, _, j, q, pj, e2, e3⟩
          · exact h2.2.2.1 a
          · by_cases hij : i = j
            · subst hij
              rw [hpi] at pj
              cases pj
            · exact c.inv.dj i j r q n n hij e e2 h1 e3 rfl
        · have g := ow_at h3
          exact ow_of g.2.1 g.2.2 g.1
    | true =>
      rw [hq i hpi] at e
      cases e2 : ρ[i]? with
      | none => rw [e2] at e; cases e
      | some o =>
        rw [e2] at e
        cases o with
        | none => cases e
        | some q => cases e
  · cases hpi : p i with
    | false => rw [hp i hpi] at e; exact c.inv.ns i r e
    | true =>
      rw [hq i hpi] at e
      cases e2 : ρ[i]? with
      | none => rw [e2] at e; cases e
      | some o =>
        rw [e2] at e
        cases o with
        | none => cases e
        | some q => cases e
  · have k1 : ∀ {i : Nat} {q : R}, ρ'[i]? = some (some (.ow, q)) → ρ[i]? = some (some (.ow, q)) := fun {i q} e => by
      cases hpi : p i with
      | false => rw [hp i hpi] at e; exact e
      | true =>
        rw [hq i hpi] at e
        cases e2 : ρ[i]? with
        | none => rw [e2] at e; cases e
        | some o =>
          rw [e2] at e
          cases o with
          | none => cases e
          | some q => cases e
    exact c.inv.dj i j r q n m hij (k1 e1) (k1 e2)
theorem frz1_s (c : Cx N S ρ σ) (j : Nat) : ∃ S' : Hs, S'.G = S.G ∧ Ext N S S' ∧ Cx N S' (frz1 ρ j) σ := by
  have e : frz1 ρ j = ρ ∨ ∃ t r, ρ[j]? = some (some (t, r)) ∧ frz1 ρ j = ρ.set j (some (.fz, r)) := by
    unfold frz1
    split
    · rename_i t r e
      exact .inr ⟨t, r, e, rfl⟩
    · exact .inl rfl
  rcases e with e | ⟨t, r, e1, e⟩
  · exact ⟨S, rfl, Ext.refl, by rw [e]; exact c⟩
  · refine frz_s c (fun i => decide (i = j)) (by rw [e]; simp) (fun i hi => ?_) fun i hi => ?_
    · have : i ≠ j := by simpa using hi
      rw [e, List.getElem?_set_ne (Ne.symm this)]
    · have : i = j := by simpa using hi
      subst this
      rw [e, e1, List.getElem?_set_self (List.getElem?_eq_some_iff.mp e1).1]
      rfl
theorem frzs_s : ∀ {js : List Nat} {ρ : PEnv} {S : Hs}, Cx N S ρ σ → ∃ S' : Hs, S'.G = S.G ∧ Ext N S S' ∧ Cx N S' (frz js ρ) σ
  | [], ρ, S, c => ⟨S, rfl, Ext.refl, c⟩
  | j :: js, ρ, S, c => by
    obtain ⟨S1, g1, e1, c1⟩ := frz1_s c j
    obtain ⟨S2, g2, e2, c2⟩ := frzs_s (js := js) c1
    exact ⟨S2, by rw [g2, g1], e1.trans e2, c2⟩
theorem frzA_s (c : Cx N S ρ σ) : ∃ S' : Hs, S'.G = S.G ∧ Ext N S S' ∧ Cx N S' (frzA ρ) σ :=
  frz_s c (fun _ => true) (by simp [frzA]) (fun i hi => by cases hi) fun i _ => by simp [frzA]
end
end LK

set_option Elab.async false
set_option linter.all false
set_option autoImplicit false
set_option maxRecDepth 100000
set_option maxHeartbeats 2000000
/-! PkStm2: statements. -/
namespace LK
open PySem
def FlS (N : Nat) (S : Hs) (r : Fl) (nx bk ct : PEnv → Prop) (rt : R → Prop) (X : Str → D → PEnv → Prop) : Prop := match r with
  | .nx σ G => ∃ (S' : Hs) (ρ : PEnv), S'.G = G ∧ Ext N S S' ∧ Cx N S' ρ σ ∧ nx ρ
  | .bk σ G => ∃ (S' : Hs) (ρ : PEnv), S'.G = G ∧ Ext N S S' ∧ Cx N S' ρ σ ∧ bk ρ
  | .ct σ G => ∃ (S' : Hs) (ρ : PEnv), S'.G = G ∧ Ext N S S' ∧ Cx N S' ρ σ ∧ ct ρ
  | .rt d G => ∃ (S' : Hs) (v : R), S'.G = G ∧ Ext N S S' ∧ HI S' ∧ RT S' (.val d) v ∧ rt v
  | .ex c d σ G => d.fl = true ∧ ∃ (S' : Hs) (ρ : PEnv), S'.G = G ∧ Ext N S S' ∧ Cx N S' ρ σ ∧ X c d ρ
  | .bad => False
section
variable {S S' : Hs} {N : Nat} {ρ : PEnv} {σ : Env} {nx bk ct : PEnv → Prop} {rt : R → Prop} {X : Str → D → PEnv → Prop}
theorem fs_trans {r : Fl} (e : Ext N S S') (h : FlS N S' r nx bk ct rt X) : FlS N S r nx bk ct rt X := by
  cases r with
  | nx σ G => obtain ⟨S2, ρ, h1, h2, h3⟩ := h; exact ⟨S2, ρ, h1, e.trans h2, h3⟩
  | bk σ G => obtain ⟨S2, ρ, h1, h2, h3⟩ := h; exact ⟨S2, ρ, h1, e.trans h2, h3⟩
  | ct σ G => obtain ⟨S2, ρ, h1, h2, h3⟩ := h; exact ⟨S2, ρ, h1, e.trans h2, h3⟩
  | rt d G => obtain ⟨S2, ρ, h1, h2, h3⟩ := h; exact ⟨S2, ρ, h1, e.trans h2, h3⟩
  | ex c d σ G => obtain ⟨h0, S2, ρ, h1, h2, h3⟩ := h; exact ⟨h0, S2, ρ, h1, e.trans h2, h3⟩
  | bad => exact h
theorem fs_nx (c : Cx N S ρ σ) (h : nx ρ) : FlS N S (.nx σ S.G) nx bk ct rt X := ⟨S, ρ, rfl, Ext.refl, c, h⟩
theorem fs_res {α : Type} {r : Res α} {f : α → Hpp → Fl} {Q : α → Hs → Prop} (c : Cx N S ρ σ) (h : Sn S r Q (fun c d => X c d ρ)) (g : ∀ a S', Ext S.G.length S S' → HI S' → Cx N S' ρ σ → Q a S' → FlS N S' (f a S'.G) nx bk ct rt X) : FlS N S (resF r σ f) nx bk ct rt X := by
  cases r with
  | bad => exact h
  | ex cl d G =>
    obtain ⟨h1, h2, S', rfl, h3, h4⟩ := h
    exact ⟨h1, S', ρ, rfl, h3.weak c.le, c.ext h3 h4, h2⟩
  | ok a G =>
    obtain ⟨S', rfl, h3, h4, h5⟩ := h
    exact fs_trans (h3.weak c.le) (g a S' h3 h4 (c.ext h3 h4) h5)
variable {C : CallF} {C' : CallP} {Γ : Str → Option D}
/-- what a new expression gives is no old cell -/
theorem rf_ref {e : E} (hr : e.rf = true) {G G' : Hpp} {n : Nat} : ev C Γ e σ G ≠ .ok (.val (.ref n)) G' := by
  have bd : ∀ {α : Type} {r : Res α} {f : α → Hpp → Res R}, (∀ a G, f a G ≠ .ok (.val (.ref n)) G') → r.bind f ≠ .ok (.val (.ref n)) G' := fun {α r f} h => by
    cases r with
    | ok a G => exact h a G
    | ex _ _ _ => exact fun e => by cases e
    | bad => exact fun e => by cases e
  have bi : ∀ (op : Bop) (i j : Int) (G : Hpp), binI op i j G ≠ .ok (.val (.ref n)) G' := fun op i j G => by
    cases op <;> simp only [binI, okV] <;> (try split) <;> intro e <;> cases e
  have bn : ∀ (op : Bop) (x y : R) (G : Hpp), binR op x y G ≠ .ok (.val (.ref n)) G' := fun op x y G => by
    unfold binR
    split
    · exact bi _ _ _ _
    · cases op <;> simp only [okV] <;> (try split) <;> intro e <;> cases e
    · cases op <;> simp only [okV] <;> (try split) <;> intro e <;> cases e
    · cases op <;> simp only [okV] <;> (try split) <;> intro e <;> cases e
    · split
      · split <;> intro e <;> cases e
      · intro e; cases e
    · split
      · split <;> intro e <;> cases e
      · intro e; cases e
  have ct : ∀ (x : R) (l h : Option Int) (G : Hpp), cutR x l h G ≠ .ok (.val (.ref n)) G' := fun x l h G => by
    unfold cutR
    split
    · intro e; cases e
    · split <;> intro e <;> cases e
  have sc : ∀ (b : Sb) (ds : List D) (G : Hpp), seqC b ds G ≠ .ok (.val (.ref n)) G' := fun b ds G => by
    unfold seqC
    split
    · intro e; cases e
    · split <;> intro e <;> cases e
    · intro e; cases e
  have sq : ∀ (b : Sb), (b = .list ∨ b = .sorted) → ∀ (x : R) (G : Hpp), seqR b x G ≠ .ok (.val (.ref n)) G' := fun b hb x G => by
    have st : ∀ (ds : List D) (G : Hpp), seqT b ds G ≠ .ok (.val (.ref n)) G' := fun ds G => by
      rcases hb with rfl | rfl
      · exact sc .list ds G
      · exact sc .sorted ds G
    have sl : ∀ (ds : List D) (G : Hpp), seqL b ds G ≠ .ok (.val (.ref n)) G' := fun ds G => by
      rcases hb with rfl | rfl
      · exact st ds G
      · exact st ds G
    unfold seqR
    split
    · exact st _ _
    · exact sl _ _
    · exact sl _ _
    · split
      · exact sl _ _
      · exact sc _ _ _
      · intro e; cases e
    · exact sc _ _ _
    · intro e; cases e
  cases e with
  | lst es => rw [ev]; exact bd fun a G => by intro e; cases e
  | comp e tg i ifs => rw [ev]; exact bd fun a G => bd fun a G => by intro e; cases e
  | dcomp t k e tg i ifs => rw [ev]; exact bd fun a G => bd fun a G => by intro e; cases e
  | dnew t => rw [ev]; intro e; cases e
  | lrng a b =>
    rw [ev]
    refine bd fun a G => bd fun a G => ?_
    split
    · split <;> intro e <;> cases e
    · intro e; cases e
  | seq b a =>
    rw [ev]
    refine bd fun x G => sq b ?_ x G
    cases b <;> first | exact .inl rfl | exact .inr rfl | cases hr
  | bin op a b => rw [ev]; exact bd fun x G => bd fun y G => bn op x y G
  | slc a l h => rw [ev]; exact bd fun x G => bd fun y G => bd fun z G => ct x y z G
  | int i => rw [ev]; intro e; cases e
  | non => rw [ev]; intro e; cases e
  | bl i => rw [ev]; intro e; cases e
  | str i => rw [ev]; intro e; cases e
  | _ => cases hr
/-- an item of a row of names that are set at once -/
def DTs (S : Hs) : Nat → List Bool → List D → List R → Prop
  | _, [], [], [] => True
  | lo, false :: ts, d :: ds, r :: rs => RT S (.val d) r ∧ DTs S lo ts ds rs
  | lo, true :: ts, d :: ds, r :: rs => (r = .val d ∧ d.fl = true ∧ DTs S lo ts ds rs) ∨ ∃ n, d = .ref n ∧ (lo ≤ n ∧ n < S.G.length ∧ ¬ S.A n ∧ ¬ S.B n) ∧ Ow S n r ∧ DTs S (n + 1) ts ds rs
  | _, _, _, _ => False
theorem Ow.ext (e : Ext S.G.length S S') {n : Nat} {r : R} (hn : n < S.G.length) (hb : ¬ S.B n) (h : Ow S n r) : Ow S' n r := by
  have g := ow_at h
  exact ow_of g.2.1 g.2.2 (by rw [e.same n hn hb]; exact g.1)
theorem DTs.mono : ∀ {ts : List Bool} {ds : List D} {rs : List R} {a b : Nat}, a ≤ b → DTs S b ts ds rs → DTs S a ts ds rs
  | [], [], [], _, _, _, h => h
  | false :: ts, d :: ds, r :: rs, a, b, hab, h => ⟨h.1, DTs.mono hab h.2⟩
  | true :: ts, d :: ds, r :: rs, a, b, hab, h => by
    rcases h with ⟨h1, h2, h3⟩ | ⟨n, h1, h2, h3⟩
    · exact .inl ⟨h1, h2, DTs.mono hab h3⟩
    · exact .inr ⟨n, h1, ⟨by omega, h2.2⟩, h3⟩
  | [], [], _ :: _, _, _, _, h => h.elim
  | [], _ :: _, _, _, _, _, h => by simp [DTs] at h
  | _ :: _, [], _, _, _, _, h => by simp [DTs] at h
  | _ :: _, _ :: _, [], _, _, _, h => by simp [DTs] at h
theorem pairs_eq : ∀ {l m : List (D × D)}, l.map (·.1) = m.map (·.1) → l.map (·.2) = m.map (·.2) → l = m
  | [], [], _, _ => rfl
  | [], _ :: _, h, _ => by simp at h
  | _ :: _, [], h, _ => by simp at h
  | p :: l, q :: m, h, g => by
    simp only [List.map_cons, List.cons.injEq] at h g
    rw [pairs_eq h.2 g.2, Prod.ext h.1 g.1]
/-- what a new list is worth to a name alone -/
theorem toD_own (hi : HI S) {x v : R} (h : RT S x v) (hf : v.flat = true) (hx : ∀ n, x ≠ .val (.ref n)) {X : XP} : Sn S (toD x S.G) (fun d S' => (v = .val d ∧ d.fl = true) ∨ (d = .ref S.G.length ∧ ¬ S'.A S.G.length ∧ ¬ S'.B S.G.length ∧ S.G.length < S'.G.length ∧ Ow S' S.G.length v)) X := by
  cases v with
  | val w =>
    obtain ⟨d, rfl, h, _⟩ := h
    have := rel_fl hf h
    subst this
    exact sn_ok hi (.inl ⟨rfl, hf⟩)
  | newS ds => cases hf
  | newL vs =>
    obtain ⟨ds, h1, rfl | ⟨n, rfl, _⟩⟩ := h
    · have := relL_fl hf h1
      subst this
      obtain ⟨e1, e2⟩ := new_own hi (c := .lst ds) (flL_low hf)
      exact ⟨_, rfl, e1, e2, .inr ⟨rfl, fun a => absurd (hi.al _ a) (Nat.lt_irrefl _), fun a => absurd (hi.bl a) (Nat.lt_irrefl _), by simp, by simp, hf⟩⟩
    · exact absurd rfl (hx n)
  | newD t kvs =>
    obtain ⟨ds, h1, rfl | ⟨n, rfl, _⟩⟩ := h
    · rw [R.flat, Bool.and_eq_true] at hf
      have e3 := relL_fl hf.2 h1.2.2
      have : ds = kvs := pairs_eq h1.1 e3
      subst this
      obtain ⟨e1, e2⟩ := new_own hi (c := .dct t ds) (relK_low hi h1)
      exact ⟨_, rfl, e1, e2, .inr ⟨rfl, fun a => absurd (hi.al _ a) (Nat.lt_irrefl _), fun a => absurd (hi.bl a) (Nat.lt_irrefl _), by simp, by simp, hf⟩⟩
    · exact absurd rfl (hx n)
theorem sn_bindE {α β : Type} {X : XP} {r : Res α} {f : α → Hpp → Res β} {Q : α → Hs → Prop} {Q' : β → Hs → Prop} (h : Sn S r Q X) (g : ∀ a S', r = .ok a S'.G → Ext S.G.length S S' → HI S' → Q a S' → Sn S' (f a S'.G) Q' X) : Sn S (r.bind f) Q' X := by
  cases r with
  | bad => exact h
  | ex c d G => exact h
  | ok a G =>
    obtain ⟨S', rfl, e, hi, q⟩ := h
    have h : Sn S (.ok a S'.G) (fun b S2 => b = a ∧ S2 = S') X := ⟨S', rfl, e, hi, rfl, rfl⟩
    refine sn_bind h fun b S2 e2 hi2 ⟨q1, q2⟩ => ?_
    subst q1 q2
    exact g b S2 rfl e hi q
theorem rf_sn (hC : CallOk C C') (hΓ : ∀ x d, Γ x = some d → d.fl = true) {e : E} {Q : R → Prop} {X : XP} (c : Cx N S ρ σ) (h : pe C' Γ e ρ Q X) (hr : ∀ r, Q r → (E.rf e && r.flat) = true) :
    Sn S ((ev C Γ e σ S.G).bind toD) (fun d S' => ∃ r, Q r ∧ ((r = .val d ∧ d.fl = true) ∨ ∃ n, d = .ref n ∧ (S.G.length ≤ n ∧ n < S'.G.length ∧ ¬ S'.A n ∧ ¬ S'.B n) ∧ Ow S' n r)) X := by
  refine sn_bindE (pe_s hC hΓ e h c) fun x S' ee ex hi ⟨v, r1, q⟩ => ?_
  have hf := hr v q
  rw [Bool.and_eq_true] at hf
  refine sn_imp (toD_own hi r1 hf.2 fun n z => by subst z; exact rf_ref hf.1 ee) fun d S2 ex2 hi2 h => ?_
  rcases h with h | ⟨h1, h2, h3, h4, h5⟩
  · exact ⟨v, q, .inl h⟩
  · exact ⟨v, q, .inr ⟨_, h1, ⟨ex.len, h4, h2, h3⟩, h5⟩⟩
theorem ow_lt (c : Cx N S ρ σ) {j : Nat} {q : R} {m : Nat} (h1 : ρ[j]? = some (some (.ow, q))) (h2 : σ[j]? = some (some (.ref m))) : m < S.G.length := by
  rcases c.inv.ow j q h1 with ⟨d, _, h3, h4⟩ | ⟨k, h3, h4, _⟩
  · rw [h2] at h4; cases h4; simp [D.fl] at h3
  · rw [h2] at h3; cases h3; exact h4.2.1
theorem dts_ext (e : Ext S.G.length S S') : ∀ {ts : List Bool} {ds : List D} {rs : List R} {lo : Nat}, DTs S lo ts ds rs → DTs S' lo ts ds rs
  | [], [], [], _, h => h
  | false :: ts, d :: ds, r :: rs, _, h => ⟨RT.ext e h.1, dts_ext e h.2⟩
  | true :: ts, d :: ds, r :: rs, lo, h => by
    rcases h with ⟨h1, h2, h3⟩ | ⟨n, h1, h2, h3, h4⟩
    · exact .inl ⟨h1, h2, dts_ext e h3⟩
    · refine .inr ⟨n, h1, ⟨h2.1, Nat.lt_of_lt_of_le h2.2.1 e.len, fun a => ?_, fun b => ?_⟩, Ow.ext e h2.2.1 h2.2.2.2 h3, dts_ext e h4⟩
      · rcases e.fa n a with a | a
        · exact h2.2.2.1 a
        · omega
      · rcases e.fb n b with a | a
        · exact h2.2.2.2 a
        · omega
  | [], [], _ :: _, _, h => h.elim
  | [], _ :: _, _, _, h => by simp [DTs] at h
  | _ :: _, [], _, _, h => by simp [DTs] at h
  | _ :: _, _ :: _, [], _, h => by simp [DTs] at h
theorem pdis_s (hC : CallOk C C') (hΓ : ∀ x d, Γ x = some d → d.fl = true) : ∀ (ts : List Bool) (es : Es) {S : Hs} {Q : List R → Prop} {X : XP}, pdis C' Γ ts es ρ Q X → Cx N S ρ σ → Sn S (evs C Γ es σ S.G) (fun ds S' => ∃ rs, DTs S' S.G.length ts ds rs ∧ Q rs) X
  | [], .nil, S, Q, X, h, c => by
    rw [pdis] at h
    exact sn_eq c.hi (by rw [evs]) ⟨[], (show DTs S S.G.length [] [] [] by simp [DTs]), h⟩
  | false :: ts, .cons e r, S, Q, X, h, c => by
    rw [pdis] at h
    rw [evs]
    refine sn_bind (Q := fun d S' => ∃ v, RT S' (.val d) v ∧ pdis C' Γ ts r ρ (fun rs => Q (v :: rs)) X) (sn_bind (pe_s hC hΓ e h c) fun x S1 e1 hi1 ⟨v, r1, q⟩ => sn_imp (toD_rt hi1 r1) fun d S2 e2 _ r2 => ⟨v, r2, q.2⟩) fun d S2 e2 hi2 ⟨w, r2, q⟩ => ?_
    refine sn_bind (pdis_s hC hΓ ts r q (c.ext e2 hi2)) fun ds S3 e3 hi3 ⟨vs, r3, q⟩ => ?_
    exact sn_ok hi3 ⟨w :: vs, (show DTs S3 S.G.length (false :: ts) (d :: ds) (w :: vs) from ⟨RT.ext e3 r2, DTs.mono e2.len r3⟩), q⟩
  | true :: ts, .cons e r, S, Q, X, h, c => by
    rw [pdis] at h
    rw [evs]
    refine sn_bind (rf_sn hC hΓ c h fun r q => q.1) fun d S2 e2 hi2 ⟨w, q, r2⟩ => ?_
    refine sn_bind (pdis_s hC hΓ ts r q.2 (c.ext e2 hi2)) fun ds S3 e3 hi3 ⟨vs, r3, q⟩ => ?_
    refine sn_ok hi3 ⟨w :: vs, ?_, q⟩
    rcases r2 with ⟨h1, h2⟩ | ⟨n, h1, h2, h3⟩
    · exact .inl ⟨h1, h2, DTs.mono e2.len r3⟩
    · refine .inr ⟨n, h1, ⟨h2.1, Nat.lt_of_lt_of_le h2.2.1 e3.len, fun a => ?_, fun b => ?_⟩, Ow.ext e3 h2.2.1 h2.2.2.2 h3, DTs.mono (by omega) r3⟩
      · rcases e3.fa n a with a | a
        · exact h2.2.2.1 a
        · omega
      · rcases e3.fb n b with a | a
        · exact h2.2.2.2 a
        · omega
  | [], .cons _ _, _, _, _, h, _ => by simp [pdis] at h
  | _ :: _, .nil, _, _, _, h, _ => by simp [pdis] at h
theorem psetV_s (hN : N ≤ S.G.length) : ∀ {ts : List Bool} {js : List Nat} {rs : List R} {ds : List D} {lo : Nat} {ρ ρ1 : PEnv} {σ : Env}, N ≤ lo → Inv N S ρ σ → (∀ (j : Nat) (q : R) (m : Nat), ρ[j]? = some (some (.ow, q)) → σ[j]? = some (some (.ref m)) → m < lo) → DTs S lo ts ds rs → psetV ρ ts js rs = some ρ1 → ∃ σ1, setSlots σ js ds = some σ1 ∧ Inv N S ρ1 σ1
  | [], [], [], [], lo, ρ, ρ1, σ, hl, h, hb, r, e => by
    simp only [psetV] at e
    cases e
    exact ⟨σ, rfl, h⟩
  | false :: ts, j :: js, r :: rs, d :: ds, lo, ρ, ρ1, σ, hl, h, hb, q, e => by
    have e : psetV (ρ.set j (some (.fz, r))) ts js rs = some ρ1 := e
    show ∃ σ1, setSlots (σ.set j (some d)) js ds = some σ1 ∧ _
    refine psetV_s hN hl (inv_set h q.1) (fun i q m e1 e2 => ?_) q.2 e
    rw [List.getElem?_set] at e1 e2
    split at e1
    · split at e1 <;> cases e1
    · rename_i hij
      rw [if_neg hij] at e2
      exact hb i q m e1 e2
  | true :: ts, j :: js, r :: rs, d :: ds, lo, ρ, ρ1, σ, hl, h, hb, q, e => by
    have e : psetV (ρ.set j (some (.ow, r))) ts js rs = some ρ1 := e
    show ∃ σ1, setSlots (σ.set j (some d)) js ds = some σ1 ∧ _
    rcases q with ⟨rfl, h2, h3⟩ | ⟨n, rfl, h2, h3, h4⟩
    · refine psetV_s hN hl (inv_ownv h h2) (fun i q m e1 e2 => ?_) h3 e
      rw [List.getElem?_set] at e1 e2
      split at e1
      · rename_i hij
        rw [if_pos hij] at e2
        split at e2
        · cases e2; simp [D.fl] at h2
        · cases e2
      · rename_i hij
        rw [if_neg hij] at e2
        exact hb i q m e1 e2
    · refine psetV_s hN (by omega) (inv_own h ⟨by omega, h2.2⟩ h3 fun i q m hij e1 e2 => by have := hb i q m e1 e2; omega) (fun i q m e1 e2 => ?_) h4 e
      rw [List.getElem?_set] at e1 e2
      split at e1
      · rename_i hij
        rw [if_pos hij] at e2
        split at e2
        · cases e2; omega
        · cases e2
      · rename_i hij
        rw [if_neg hij] at e2
        have := hb i q m e1 e2
        omega
  | [], [], [], _ :: _, _, _, _, _, _, _, _, r, _ => by simp [DTs] at r
  | [], [], _ :: _, _, _, _, _, _, _, _, _, _, e => by simp [psetV] at e
  | [], _ :: _, _, _, _, _, _, _, _, _, _, _, e => by simp [psetV] at e
  | _ :: _, [], _, _, _, _, _, _, _, _, _, _, e => by simp [psetV] at e
  | _ :: _, _ :: _, [], _, _, _, _, _, _, _, _, _, e => by simp [psetV] at e
  | true :: _, _ :: _, _ :: _, [], _, _, _, _, _, _, _, r, _ => by simp [DTs] at r
  | false :: _, _ :: _, _ :: _, [], _, _, _, _, _, _, _, r, _ => by simp [DTs] at r
/-! ### loops -/
theorem loop_s {f : D → Env → Hpp → Fl} {g : D → PEnv → (PEnv → Prop) → (PEnv → Prop) → Prop} {w : Walk} {ds : List D} {fin : PEnv → Prop} {k : List Nat} {S0 : Hs}
    (hw : ∀ S, Ext N S0 S → Its w ds S.G)
    (hf : ∀ (S : Hs) (d v : D) (ρ : PEnv) (σ : Env) (nx bk : PEnv → Prop), Ext N S0 S → Rl S d v → Cx N S ρ σ → g v ρ nx bk → FlS N S (f d σ S.G) nx bk nx rt X) :
    ∀ (us : List D) (n i : Nat) (ρ : PEnv) (σ : Env) (S : Hs), Ext N S0 S → RlL S (ds.drop i) us → Cx N S ρ σ → us.length < n → ploop g k fin us ρ → FlS N S (loopF f w n i σ S.G) fin bk ct rt X
  | _, 0, _, _, _, _, _, _, _, h, _ => by omega
  | [], n + 1, i, ρ, σ, S, e, hd, c, hn, h => by
    rw [loopF, (hw S e).1 i]
    have : ds[i]? = none := by
      rw [RlL] at hd
      rw [List.getElem?_eq_none_iff]
      exact List.drop_eq_nil_iff.mp hd
    rw [this]
    exact fs_nx c h
  | u :: us, n + 1, i, ρ, σ, S, e, hd, c, hn, h => by
    rw [loopF, (hw S e).1 i]
    rw [RlL] at hd
    obtain ⟨d, ds', e1, r1, r2⟩ := hd
    have e2 : ds[i]? = some d := by
      have := congrArg (·[0]?) e1
      simpa using this
    have e3 : ds.drop (i + 1) = ds' := by
      have := congrArg List.tail e1
      simpa [List.tail_drop] using this
    rw [e2]
    have q := hf S d u ρ σ _ _ e r1 c h
    have go : ∀ (σ' : Env) (S' : Hs) (ρ' : PEnv), Ext N S S' → Cx N S' ρ' σ' → ploop g k fin us (kill k ρ') → FlS N S (loopF f w n (i + 1) σ' S'.G) fin bk ct rt X := fun σ' S' ρ' ex c' q =>
      fs_trans ex (loop_s hw hf us n (i + 1) _ σ' S' (e.trans ex) (by rw [e3]; exact r2.ext ex) c'.kill (by simp at hn; omega) q)
    dsimp only
    cases ef : f d σ S.G with
    | nx σ' G => rw [ef] at q; obtain ⟨S', ρ', rfl, ex, c', q⟩ := q; exact go σ' S' ρ' ex c' q
    | ct σ' G => rw [ef] at q; obtain ⟨S', ρ', rfl, ex, c', q⟩ := q; exact go σ' S' ρ' ex c' q
    | bk σ' G => rw [ef] at q; obtain ⟨S', ρ', rfl, ex, c', q⟩ := q; exact ⟨S', _, rfl, ex, c'.kill, q⟩
    | rt v G => rw [ef] at q; exact q
    | ex _ _ _ _ => rw [ef] at q; exact q
    | bad => rw [ef] at q; exact q
theorem whl_s {cf : Env → Hpp → Res R} {f : Env → Hpp → Fl} {cp : PEnv → (R → Prop) → Prop} {g : PEnv → (PEnv → Prop) → (PEnv → Prop) → Prop} {fin : PEnv → Prop} {k : List Nat}
    (hc : ∀ (S : Hs) (ρ : PEnv) (σ : Env) (Q : R → Prop), Cx N S ρ σ → cp ρ Q → Sn S (cf σ S.G) (fun x S' => ∃ v, RT S' x v ∧ Q v) (fun c d => X c d ρ))
    (hf : ∀ (S : Hs) (ρ : PEnv) (σ : Env) (nx bk : PEnv → Prop), Cx N S ρ σ → g ρ nx bk → FlS N S (f σ S.G) nx bk nx rt X) :
    ∀ (n : Nat) (ρ : PEnv) (σ : Env) (S : Hs), Cx N S ρ σ → pwhl cp g k fin n ρ → FlS N S (whileF cf f n σ S.G) fin bk ct rt X
  | 0, ρ, σ, S, c, h => h.elim
  | n + 1, ρ, σ, S, c, h => by
    have q := hc S ρ σ _ c h
    rw [whileF]
    cases ec : cf σ S.G with
    | bad => rw [ec] at q; exact q
    | ex cl d G =>
      rw [ec] at q
      obtain ⟨h1, h2, S', rfl, h3, h4⟩ := q
      exact ⟨h1, S', ρ, rfl, h3.weak c.le, c.ext h3 h4, h2⟩
    | ok x G =>
      rw [ec] at q
      obtain ⟨S', rfl, ex, hi, v, r1, q⟩ := q
      have c1 := c.ext ex hi
      rcases bif_e q with ⟨rfl, q⟩ | ⟨rfl, q⟩ <;> rw [rt_sc r1 rfl]
      · refine fs_trans (ex.weak c.le) ?_
        have q := hf S' ρ σ _ _ c1 q
        dsimp only
        have go : ∀ (σ' : Env) (S2 : Hs) (ρ' : PEnv), Ext N S' S2 → Cx N S2 ρ' σ' → pwhl cp g k fin n (kill k ρ') → FlS N S' (whileF cf f n σ' S2.G) fin bk ct rt X := fun σ' S2 ρ' ex c' q =>
          fs_trans ex (whl_s hc hf n _ σ' S2 c'.kill q)
        cases ef : f σ S'.G with
        | nx σ' G => rw [ef] at q; obtain ⟨S2, ρ', rfl, ex, c', q⟩ := q; exact go σ' S2 ρ' ex c' q
        | ct σ' G => rw [ef] at q; obtain ⟨S2, ρ', rfl, ex, c', q⟩ := q; exact go σ' S2 ρ' ex c' q
        | bk σ' G => rw [ef] at q; obtain ⟨S2, ρ', rfl, ex, c', q⟩ := q; exact ⟨S2, _, rfl, ex, c'.kill, q⟩
        | rt v G => rw [ef] at q; exact q
        | ex _ _ _ _ => rw [ef] at q; exact q
        | bad => rw [ef] at q; exact q
      · exact ⟨S', ρ, rfl, ex.weak c.le, c1, q⟩
end
end LK

set_option Elab.async false
set_option linter.all false
set_option autoImplicit false
set_option maxRecDepth 100000
set_option maxHeartbeats 2000000
/-! PkStm3: statements, calls. -/
namespace LK
open PySem
section
variable {N : Nat} {C : CallF} {C' : CallP} {Γ : Str → Option D}
theorem own_ref {S : Hs} {ρ : PEnv} {σ : Env} (c : Cx N S ρ σ) {m : Nat} {r : R} (h : ρ[m]? = some (some (.ow, r))) (hc : r.isC = true) : ∃ n, σ[m]? = some (some (.ref n)) ∧ S.G[n]? = some r.cell ∧ r.flat = true := by
  rcases c.inv.ow m r h with ⟨d, rfl, _⟩ | ⟨n, h1, _, h2⟩
  · cases hc
  · have g := ow_at h2
    exact ⟨n, h1, g.1, g.2.1⟩
theorem flL_app {a b : List D} (h : D.flL a = true) (g : D.flL b = true) : D.flL (a ++ b) = true := by
  rw [flL_iff] at h g ⊢
  intro d hd
  rcases List.mem_append.mp hd with hd | hd
  · exact h d hd
  · exact g d hd
theorem flL_erase {a : List D} {j : Nat} (h : D.flL a = true) : D.flL (a.eraseIdx j) = true := by
  rw [flL_iff] at h ⊢
  exact fun d hd => h d (List.mem_of_mem_eraseIdx hd)
theorem flL_one {d : D} (h : d.fl = true) : D.flL [d] = true := by simp [D.flL, h]
theorem flL_set {a : List D} {j : Nat} {d : D} (h : D.flL a = true) (hd : d.fl = true) : D.flL (a.set j d) = true := by
  rw [flL_iff] at h ⊢
  intro e he
  rcases List.mem_or_eq_of_mem_set he with he | rfl
  · exact h e he
  · exact hd
theorem flat_put {t : Bool} {kvs : List (D × D)} {k v : D} (h : (R.newD t kvs).flat = true) (hk : k.fl = true) (hv : v.fl = true) : (R.newD t (dput kvs k v)).flat = true := by
  rw [R.flat, Bool.and_eq_true] at h ⊢
  unfold dput
  split
  · have m1 : (kvs.map fun p => if p.1 = k then (p.1, v) else p).map (·.1) = kvs.map (·.1) := by
      rw [List.map_map]
      congr 1
      funext p
      simp only [Function.comp]
      split <;> rfl
    refine ⟨by rw [m1]; exact h.1, ?_⟩
    rw [flL_iff]
    intro d hd
    simp only [List.map_map, List.mem_map, Function.comp] at hd
    obtain ⟨p, hp, rfl⟩ := hd
    split
    · exact hv
    · exact mem_fl h.2 (List.mem_map.mpr ⟨p, hp, rfl⟩)
  · rw [List.map_append, List.map_append]
    exact ⟨flL_app h.1 (flL_one hk), flL_app h.2 (flL_one hv)⟩
theorem upd_nx {S : Hs} {ρ : PEnv} {σ : Env} {nx bk ct : PEnv → Prop} {rt : R → Prop} {X : Str → D → PEnv → Prop} (c : Cx N S ρ σ) {m n : Nat} {r0 r : R} (hm : ρ[m]? = some (some (.ow, r0))) (hs : σ[m]? = some (some (.ref n))) (hf : r.flat = true) (hc : r.isC = true) (h : nx (ρ.set m (some (.ow, r)))) : FlS N S (.nx σ (S.G.set n r.cell)) nx bk ct rt X := by
  obtain ⟨e, c'⟩ := own_upd c hm hs hf hc
  exact ⟨_, _, rfl, e, c', h⟩
theorem resF_bind {α β : Type} {r : Res α} {f : α → Hpp → Res β} {σ : Env} {g : β → Hpp → Fl} : resF (r.bind f) σ g = resF r σ fun a G => resF (f a G) σ g := by cases r <;> rfl
theorem meth_eq {M : M1} {m n : Nat} {e : E} {σ : Env} {G : Hpp} {ds : List D} (h1 : σ[m]? = some (some (.ref n))) (h2 : G[n]? = some (.lst ds)) : ev C Γ (.meth1 M (.var m) e) σ G = (ev C Γ e σ G).bind fun y G2 => meth1R M (.val (.ref n)) y G2 := by
  have h3 : ev C Γ (.var m) σ G = .ok (.val (.ref n)) G := by rw [ev, h1]; rfl
  rw [ev, h3]
  show (if (lstM (.val (.ref n)) G).isSome = true then _ else _) = _
  rw [if_pos (by simp only [lstM, h2]; rfl)]
theorem cell_fl {S : Hs} {ρ : PEnv} {σ : Env} (c : Cx N S ρ σ) {m : Nat} {ds : List D} (em : ρ[m]? = some (some (.ow, .newL ds))) : ∃ n, σ[m]? = some (some (.ref n)) ∧ S.G[n]? = some (.lst ds) ∧ D.flL ds = true := own_ref c em rfl
mutual
theorem ps_s (hC : CallOk C C') (hΓ : ∀ x d, Γ x = some d → d.fl = true) : ∀ (s : PS) {ρ : PEnv} {σ : Env} {S : Hs} {nx bk ct : PEnv → Prop} {rt : R → Prop} {X : Str → D → PEnv → Prop}, ps C' Γ s ρ nx bk ct rt X → Cx N S ρ σ → FlS N S (exS C Γ s.strip σ S.G) nx bk ct rt X
  | .set i e, ρ, σ, S, nx, bk, ct, rt, X, h, c => by
    rw [ps] at h
    rw [PS.strip, exS]
    refine fs_res c (sn_bind (pe_s hC hΓ e h c) fun x S1 e1 hi1 ⟨v, r1, q⟩ => sn_imp (Q' := fun d S' => ∃ v, RT S' (.val d) v ∧ nx (ρ.set i (some (.fz, v)))) (toD_rt hi1 r1) fun d S2 e2 _ r2 => ⟨v, r2, q⟩) fun d S2 e2 hi2 c2 ⟨v, r2, q⟩ => ?_
    exact fs_nx ⟨hi2, inv_set c2.inv r2, c2.le⟩ q
  | .setM i e, ρ, σ, S, nx, bk, ct, rt, X, h, c => by
    rw [ps] at h
    rw [PS.strip, exS]
    refine fs_res c (rf_sn hC hΓ c h fun r q => q.1) fun d S2 e2 hi2 c2 ⟨v, q, r2⟩ => ?_
    rcases r2 with ⟨rfl, h2⟩ | ⟨n, rfl, h2, h3⟩
    · exact fs_nx ⟨hi2, inv_ownv c2.inv h2, c2.le⟩ q.2
    · exact fs_nx ⟨hi2, inv_own c2.inv ⟨Nat.le_trans c.le h2.1, h2.2⟩ h3 fun j r m _ e1 e2 => by have := ow_lt c e1 e2; omega, c2.le⟩ q.2
  | .setT js e, ρ, σ, S, nx, bk, ct, rt, X, h, c => by
    rw [ps] at h
    rw [PS.strip, exS]
    refine fs_res c (pe_s hC hΓ e h c) fun x S2 e2 hi2 c2 ⟨v, r2, q⟩ => ?_
    cases v with
    | val w =>
      cases w with
      | tup vs =>
        obtain ⟨d, rfl, r2, _⟩ := r2
        rw [Rl] at r2
        obtain ⟨ds, rfl, r2⟩ := r2
        cases e3 : psets ρ js vs with
        | none => simp only [e3] at q
        | some ρ1 =>
          simp only [e3] at q
          obtain ⟨σ1, e4, h1⟩ := psets_s c2.inv r2 e3
          simp only [e4]
          exact fs_nx ⟨hi2, h1, c2.le⟩ q
      | _ => exact q.elim
    | _ => exact q.elim
  | .setD ts js es, ρ, σ, S, nx, bk, ct, rt, X, h, c => by
    rw [ps] at h
    rw [PS.strip, exS, ev, resF_bind]
    refine fs_res c (pdis_s hC hΓ ts es h c) fun ds S2 e2 hi2 c2 ⟨rs, r1, q⟩ => ?_
    cases e3 : psetV ρ ts js rs with
    | none => simp only [e3] at q
    | some ρ1 =>
      simp only [e3] at q
      obtain ⟨σ1, e4, h1⟩ := psetV_s c2.le c.le c2.inv (fun j r m e1 e2 => ow_lt c e1 e2) r1 e3
      show FlS N S2 (match setSlots σ js ds with
        | some ρ1 => .nx ρ1 S2.G
        | none => .bad) _ _ _ _ _
      rw [e4]
      exact fs_nx ⟨hi2, h1, c2.le⟩ q
  | .putI m i e, ρ, σ, S, nx, bk, ct, rt, X, h, c => by
    rw [ps] at h
    rw [PS.strip, exS]
    split at h
    · rename_i t kvs em
      refine fs_res c (sn_bind (pe_s hC hΓ e h c) fun x S1 e1 hi1 ⟨v, r1, q⟩ => sn_imp (toD_rt hi1 r1) fun d S2 e2 _ r2 => (show ∃ w, Rl S2 d w ∧ _ from rt_pd r2 q)) fun d S2 e2 hi2 c2 ⟨w, r2, q⟩ => ?_
      obtain ⟨n, h1, _⟩ := own_ref c em rfl
      have h3 : ev C Γ (.var m) σ S2.G = .ok (.val (.ref n)) S2.G := by rw [ev, h1]; rfl
      rw [h3]
      show FlS N S2 (resF (ev C Γ i σ S2.G) σ _) _ _ _ _ _
      refine fs_res c2 (pe_s hC hΓ i q c2) fun y S3 e3 hi3 c3 ⟨u, r3, q⟩ => ?_
      split at q
      · rename_i k
        obtain ⟨⟨⟨q1, q2⟩, q3, q4⟩, q⟩ := q
        have := rel_fl q1 r2
        subst this
        rw [rt_sc r3 q2]
        obtain ⟨n', g1, g2, g3⟩ := own_ref c3 em rfl
        rw [h1] at g1
        cases g1
        have g2 : S3.G[n]? = some (.dct t kvs) := g2
        simp only [setIR, g2, q3, q4, and_self, if_true]
        exact upd_nx (r := .newD t (dput kvs k d)) c3 em h1 (flat_put g3 q2 q1) rfl q
      · exact q.elim
    · rename_i ds em
      refine fs_res c (sn_bind (pe_s hC hΓ e h c) fun x S1 e1 hi1 ⟨v, r1, q⟩ => sn_imp (toD_rt hi1 r1) fun d S2 e2 _ r2 => (show ∃ w, Rl S2 d w ∧ _ from rt_pd r2 q)) fun d S2 e2 hi2 c2 ⟨w, r2, q⟩ => ?_
      obtain ⟨n, h1, _⟩ := own_ref c em rfl
      have h3 : ev C Γ (.var m) σ S2.G = .ok (.val (.ref n)) S2.G := by rw [ev, h1]; rfl
      rw [h3]
      show FlS N S2 (resF (ev C Γ i σ S2.G) σ _) _ _ _ _ _
      refine fs_res c2 (pe_s hC hΓ i q c2) fun y S3 e3 hi3 c3 ⟨u, r3, q⟩ => ?_
      split at q
      · rename_i k
        obtain ⟨q1, q⟩ := q
        have := rel_fl q1 r2
        subst this
        rw [rt_sc r3 rfl]
        obtain ⟨n', g1, g2, g3⟩ := own_ref c3 em rfl
        rw [h1] at g1
        cases g1
        have g2 : S3.G[n]? = some (.lst ds) := g2
        cases e5 : L2.ixN ds.length k with
        | none => simp only [e5] at q
        | some j =>
          simp only [e5] at q
          simp only [setIR, g2, e5]
          exact upd_nx (r := .newL (ds.set j d)) c3 em h1 (flL_set g3 q1) rfl q
      · exact q.elim
    · exact h.elim
  | .aug i op e, ρ, σ, S, nx, bk, ct, rt, X, h, c => by
    rw [ps] at h
    rw [PS.strip, exS]
    split at h
    · rename_i a ei
      obtain ⟨d, h1, h2⟩ := c.inv.fz i _ ei
      have := rx_fl (h2.rx c.hi) rfl
      cases this
      rw [h1]
      refine fs_res c (pe_s hC hΓ e h c) fun y S2 e2 hi2 c2 ⟨v, r2, q⟩ => ?_
      split at q
      · rw [rt_sc r2 rfl]
        obtain ⟨k, k1, k2⟩ := binI_sim (G := S2.G) q
        dsimp only
        rw [k1]
        exact fs_nx ⟨hi2, inv_set c2.inv rt_int, c2.le⟩ k2
      · exact q.elim
    · exact h.elim
  | .app m e, ρ, σ, S, nx, bk, ct, rt, X, h, c => by
    rw [ps] at h
    rw [PS.strip, exS]
    split at h
    · rename_i ds em
      obtain ⟨n, h1, h2, h3⟩ := cell_fl c em
      rw [meth_eq h1 h2, resF_bind]
      refine fs_res c (pe_s hC hΓ e h c) fun y S2 e2 hi2 c2 ⟨v, r2, q⟩ => ?_
      split at q
      · obtain ⟨⟨q1, q2⟩, q⟩ := q
        rename_i d
        rw [rt_sc r2 q1]
        obtain ⟨n', g1, g2, g3⟩ := cell_fl c2 em
        rw [h1] at g1
        cases g1
        simp only [meth1R, g2, q2, if_true]
        exact upd_nx (r := .newL (ds ++ [d])) c2 em h1 (flL_app g3 (flL_one q1)) rfl q
      · exact q.elim
    · exact h.elim
  | .ext m e, ρ, σ, S, nx, bk, ct, rt, X, h, c => by
    rw [ps] at h
    rw [PS.strip, exS]
    split at h
    · rename_i ds em
      obtain ⟨n, h1, h2, h3⟩ := cell_fl c em
      rw [meth_eq h1 h2, resF_bind]
      refine fs_res c (look_s c (fun _ q => pe_s hC hΓ e q c) h) fun y S2 e2 hi2 c2 ⟨v, r2, _, q⟩ => ?_
      split at q
      · obtain ⟨⟨q1, q2⟩, q⟩ := q
        rename_i xs
        obtain ⟨es, h4, h5, _⟩ := rx_l r2
        have := relL_fl q1 h4
        subst this
        obtain ⟨n', g1, g2, g3⟩ := cell_fl c2 em
        rw [h1] at g1
        cases g1
        simp only [meth1R, g2, h5, q2, if_true]
        exact upd_nx (r := .newL (ds ++ es)) c2 em h1 (flL_app g3 q1) rfl q
      · exact q.elim
    · exact h.elim
  | .rem m e, ρ, σ, S, nx, bk, ct, rt, X, h, c => by
    rw [ps] at h
    rw [PS.strip, exS]
    split at h
    · rename_i ds em
      obtain ⟨n, h1, h2, h3⟩ := cell_fl c em
      rw [meth_eq h1 h2, resF_bind]
      refine fs_res c (pe_s hC hΓ e h c) fun y S2 e2 hi2 c2 ⟨v, r2, q⟩ => ?_
      split at q
      · obtain ⟨q1, q⟩ := q
        rename_i d
        have q2 := q1
        rw [Bool.and_eq_true] at q2
        rw [rt_sc r2 (dok_fl _ _ q2.1)]
        obtain ⟨n', g1, g2, g3⟩ := cell_fl c2 em
        rw [h1] at g1
        cases g1
        cases e5 : ds.findIdx? (fun z => D.eqv z d) with
        | none => simp only [e5] at q
        | some j =>
          simp only [e5] at q
          simp only [meth1R, g2, q1, if_true, e5]
          exact upd_nx (r := .newL (ds.eraseIdx j)) c2 em h1 (flL_erase g3) rfl q
      · exact q.elim
    · exact h.elim
  | .popS i m a, ρ, σ, S, nx, bk, ct, rt, X, h, c => by
    rw [ps] at h
    rw [PS.strip, exS]
    split at h
    · rename_i ds em
      obtain ⟨n, h1, h2, h3⟩ := cell_fl c em
      rw [meth_eq h1 h2, resF_bind, resF_bind]
      refine fs_res c (pe_s hC hΓ a h c) fun y S2 e2 hi2 c2 ⟨v, r2, q⟩ => ?_
      split at q
      · rename_i k
        rw [rt_sc r2 rfl]
        obtain ⟨n', g1, g2, g3⟩ := cell_fl c2 em
        rw [h1] at g1
        cases g1
        cases e5 : L2.ixN ds.length k with
        | none => simp only [e5] at q
        | some j =>
          simp only [e5] at q
          cases e6 : ds[j]? with
          | none => simp only [e6] at q
          | some d =>
            simp only [e6] at q
            simp only [meth1R, g2, e5, e6]
            obtain ⟨e, c'⟩ := own_upd (r := .newL (ds.eraseIdx j)) c2 em h1 (flL_erase g3) rfl
            have hd : d.fl = true := mem_fl g3 (List.mem_of_getElem? e6)
            exact ⟨_, _, rfl, e, ⟨c'.hi, inv_set c'.inv (rt_flat hd), c'.le⟩, q⟩
      · exact q.elim
    · exact h.elim
  | .popL i m, ρ, σ, S, nx, bk, ct, rt, X, h, c => by
    rw [ps] at h
    rw [PS.strip, exS]
    split at h
    · rename_i ds em
      obtain ⟨n, h1, h2, h3⟩ := cell_fl c em
      have e3 : ev C Γ (.var m) σ S.G = .ok (.val (.ref n)) S.G := by rw [ev, h1]; rfl
      rw [ev, e3]
      cases e6 : ds.getLast? with
      | none => simp only [e6] at h
      | some d =>
        simp only [e6] at h
        have e4 : meth0R .pop (.val (.ref n)) S.G = .ok (.val d) (S.G.set n (.lst ds.dropLast)) := by simp only [meth0R, h2, e6]
        have e5 : ((Res.ok (R.val (.ref n)) S.G).bind fun x G1 => if (lstM x G1).isSome = true then meth0R .pop x G1 else .bad) = .ok (.val d) (S.G.set n (.lst ds.dropLast)) := by
          show (if (lstM (.val (.ref n)) S.G).isSome = true then _ else _) = _
          rw [if_pos (by simp only [lstM, h2]; rfl)]
          exact e4
        rw [e5]
        have hd : d.fl = true := mem_fl h3 (List.mem_of_getLast? e6)
        obtain ⟨e, c'⟩ := own_upd (r := .newL ds.dropLast) c em h1 (by
          show D.flL _ = true
          rw [flL_iff]
          exact fun x hx => mem_fl h3 (List.dropLast_subset _ hx)) rfl
        exact ⟨_, _, rfl, e, ⟨c'.hi, inv_set c'.inv (rt_flat hd), c'.le⟩, h⟩
    · exact h.elim
  | .popA f m a, ρ, σ, S, nx, bk, ct, rt, X, h, c => by
    rw [ps] at h
    rw [PS.strip, exS]
    split at h
    · rename_i fs ds ef em
      obtain ⟨n, h1, h2, h3⟩ := cell_fl c em
      obtain ⟨p, p1, p2, p3⟩ := cell_fl c ef
      rw [meth_eq p1 p2, meth_eq h1 h2, resF_bind, resF_bind]
      refine fs_res c (pe_s hC hΓ a h c) fun y S2 e2 hi2 c2 ⟨v, r2, q⟩ => ?_
      split at q
      · rename_i k
        obtain ⟨⟨q1, q2⟩, q⟩ := q
        rw [rt_sc r2 rfl]
        obtain ⟨n', g1, g2, g3⟩ := cell_fl c2 em
        rw [h1] at g1
        cases g1
        cases e5 : L2.ixN ds.length k with
        | none => simp only [e5] at q
        | some j =>
          simp only [e5] at q
          cases e6 : ds[j]? with
          | none => simp only [e6] at q
          | some d =>
            simp only [e6] at q
            obtain ⟨e, c'⟩ := own_upd (r := .newL (ds.eraseIdx j)) c2 em h1 (flL_erase g3) rfl
            have hd : d.fl = true := mem_fl g3 (List.mem_of_getElem? e6)
            have ef' : (ρ.set m (some (.ow, .newL (ds.eraseIdx j))))[f]? = some (some (.ow, .newL fs)) := by rw [List.getElem?_set_ne (Ne.symm q1)]; exact ef
            obtain ⟨p', g4, g5, g6⟩ := cell_fl c' ef'
            rw [p1] at g4
            cases g4
            have g5 : (S2.G.set n (.lst (ds.eraseIdx j)))[p]? = some (.lst fs) := g5
            have e7 : meth1R .pop (.val (.ref n)) (.val (.int k)) S2.G = .ok (.val d) (S2.G.set n (.lst (ds.eraseIdx j))) := by simp only [meth1R, g2, e5, e6]
            rw [e7]
            show FlS N S2 (resF (meth1R .append (.val (.ref p)) (.val d) (S2.G.set n (.lst (ds.eraseIdx j)))) σ _) _ _ _ _ _
            have e8 : meth1R .append (.val (.ref p)) (.val d) (S2.G.set n (.lst (ds.eraseIdx j))) = .ok (.val .non) ((S2.G.set n (.lst (ds.eraseIdx j))).set p (.lst (fs ++ [d]))) := by
              simp only [meth1R, g5, q2, if_true]
              rfl
            rw [e8]
            exact fs_trans e (upd_nx (r := .newL (fs ++ [d])) c' ef' p1 (flL_app g6 (flL_one hd)) rfl q)
      · exact q.elim
    · exact h.elim
  | .expr e, ρ, σ, S, nx, bk, ct, rt, X, h, c => by
    rw [ps] at h
    rw [PS.strip, exS]
    exact fs_res c (pe_s hC hΓ e h c) fun x S2 e2 hi2 c2 ⟨v, r2, q⟩ => fs_nx c2 q
  | .ret e, ρ, σ, S, nx, bk, ct, rt, X, h, c => by
    rw [ps] at h
    rw [PS.strip, exS]
    obtain ⟨S', hg, ex, c'⟩ := frzA_s c
    rw [← hg]
    refine fs_trans ex (fs_res c' (sn_bind (pe_s hC hΓ e h c') fun x S1 e1 hi1 ⟨v, r1, q⟩ => sn_imp (Q' := fun d S' => ∃ v, RT S' (.val d) v ∧ rt v) (toD_rt hi1 r1) fun d S2 e2 _ r2 => ⟨v, r2, q⟩) fun d S2 e2 hi2 c2 ⟨v, r2, q⟩ => ?_)
    exact ⟨S2, v, rfl, Ext.refl, hi2, r2, q⟩
  | .retN, ρ, σ, S, nx, bk, ct, rt, X, h, c => by
    rw [ps] at h
    rw [PS.strip, exS]
    exact ⟨S, _, rfl, Ext.refl, c.hi, rt_flat rfl, h⟩
  | .ite t a b, ρ, σ, S, nx, bk, ct, rt, X, h, c => by
    rw [ps] at h
    rw [PS.strip, exS]
    refine fs_res c (pe_s hC hΓ t h c) fun x S2 e2 hi2 c2 ⟨v, r2, q⟩ => ?_
    rcases bif_e q with ⟨rfl, q⟩ | ⟨rfl, q⟩ <;> rw [rt_sc r2 rfl]
    · exact pss_s hC hΓ a q c2
    · exact pss_s hC hΓ b q c2
  | .whl k t b, ρ, σ, S, nx, bk, ct, rt, X, h, c => by
    rw [ps] at h
    rw [PS.strip, exS]
    exact whl_s (fun S ρ σ Q c q => pe_s hC hΓ t q c) (fun S ρ σ nx bk c q => pss_s hC hΓ b q c) WF _ σ S c.kill h
  | .for_ k tg i b, ρ, σ, S, nx, bk, ct, rt, X, h, c => by
    rw [ps] at h
    rw [PS.strip, exS]
    refine fs_res c (pi_s hC hΓ false i h c) fun w S1 e1 hi1 c1 ⟨vs, ⟨ds, h1, h2⟩, q⟩ => ?_
    simp only [Bool.false_eq_true, if_false] at h2
    have hw : ∀ S, Ext N S1 S → Its w ds S.G := fun S e => h2 S.G fun n hn => e.sa n hn
    refine loop_s hw (fun S d v ρ σ nx bk ex r cx q => ?_) vs _ 0 _ σ S1 Ext.refl h1 c1.kill (by rw [(hw S1 Ext.refl).2, relL_len h1]; omega) q
    obtain ⟨σ1, ρ1, b1, b2, b3⟩ := bind_s cx.inv (rt_toR r) q
    rw [b1]
    exact pss_s hC hΓ b b3 ⟨cx.hi, b2, cx.le⟩
  | .brk, ρ, σ, S, nx, bk, ct, rt, X, h, c => by rw [ps] at h; exact ⟨S, ρ, rfl, Ext.refl, c, h⟩
  | .cnt, ρ, σ, S, nx, bk, ct, rt, X, h, c => by rw [ps] at h; exact ⟨S, ρ, rfl, Ext.refl, c, h⟩
  | .pass, ρ, σ, S, nx, bk, ct, rt, X, h, c => by rw [ps] at h; exact ⟨S, ρ, rfl, Ext.refl, c, h⟩
  | .never, ρ, σ, S, nx, bk, ct, rt, X, h, c => by rw [ps] at h; exact h.elim
theorem pss_s (hC : CallOk C C') (hΓ : ∀ x d, Γ x = some d → d.fl = true) : ∀ (s : PSs) {ρ : PEnv} {σ : Env} {S : Hs} {nx bk ct : PEnv → Prop} {rt : R → Prop} {X : Str → D → PEnv → Prop}, pss C' Γ s ρ nx bk ct rt X → Cx N S ρ σ → FlS N S (exSs C Γ s.strip σ S.G) nx bk ct rt X
  | .nil, ρ, σ, S, nx, bk, ct, rt, X, h, c => by rw [pss] at h; exact ⟨S, ρ, rfl, Ext.refl, c, h⟩
  | .cons js s r, ρ, σ, S, nx, bk, ct, rt, X, h, c => by
    rw [pss] at h
    rw [PSs.strip, exSs]
    obtain ⟨S0, hg, ex0, c0⟩ := frzs_s (js := js) c
    rw [← hg]
    refine fs_trans ex0 ?_
    have q := ps_s hC hΓ s h c0
    cases e : exS C Γ s.strip σ S0.G with
    | nx σ' G =>
      rw [e] at q
      obtain ⟨S', ρ', rfl, ex, c', q⟩ := q
      exact fs_trans ex (pss_s hC hΓ r q c')
    | ct σ' G => rw [e] at q; exact q
    | bk σ' G => rw [e] at q; exact q
    | rt v G => rw [e] at q; exact q
    | ex _ _ _ _ => rw [e] at q; exact q
    | bad => rw [e] at q; exact q
end
end
end LK

set_option Elab.async false
set_option linter.all false
set_option autoImplicit false
set_option maxRecDepth 100000
set_option maxHeartbeats 2000000
/-! PkTop: calls; a law that holds without a heap. -/
namespace LK
open PySem
section
variable {S S1 : Hs}
mutual
/-- what names old cells alone stands in the old heap -/
theorem rel_down (hi : HI S) (hG : ∀ n, S.A n → S1.G[n]? = S.G[n]?) {S' : Hs} (hA : ∀ n, S1.A n → n < S.G.length → S.A n) (hB : ∀ n, S1.B n → n < S.G.length → S.B n) (hA' : ∀ n, S.A n → S'.A n) (hB' : ∀ n, S.B n → S'.B n) (hG' : ∀ n, n < S.G.length → S'.G[n]? = S1.G[n]?) : ∀ {v d : D}, Rl S1 d v → d.low S.G.length = true → Rl S' d v
  | .non, d, h, _ => by rw [Rl] at h ⊢; exact h
  | .bl b, d, h, _ => by rw [Rl] at h ⊢; exact h
  | .int b, d, h, _ => by rw [Rl] at h ⊢; exact h
  | .str b, d, h, _ => by rw [Rl] at h ⊢; exact h
  | .tup vs, d, h, l => by
    rw [Rl] at h ⊢
    obtain ⟨ds, rfl, h⟩ := h
    rw [D.low] at l
    exact ⟨ds, rfl, relL_down hi hG hA hB hA' hB' hG' h l⟩
  | .ref b, d, h, l => by
    rw [Rl] at h ⊢
    obtain ⟨h0, n, rfl, h⟩ := h
    rw [D.low] at l
    exact ⟨h0, n, rfl, hB' n (hB n h (of_decide_eq_true l))⟩
  | .frl vs, d, h, l => by
    rw [Rl] at h ⊢
    obtain ⟨n, ds, rfl, h1, h2, h3⟩ := h
    rw [D.low] at l
    have hn := of_decide_eq_true l
    have hAn := hA n h1 hn
    have h4 : S.G[n]? = some (.lst ds) := by rw [← hG n hAn]; exact h2
    exact ⟨n, ds, rfl, hA' n hAn, by rw [hG' n hn]; exact h2, relL_down hi hG hA hB hA' hB' hG' h3 (hi.low n _ h4)⟩
theorem relL_down (hi : HI S) (hG : ∀ n, S.A n → S1.G[n]? = S.G[n]?) {S' : Hs} (hA : ∀ n, S1.A n → n < S.G.length → S.A n) (hB : ∀ n, S1.B n → n < S.G.length → S.B n) (hA' : ∀ n, S.A n → S'.A n) (hB' : ∀ n, S.B n → S'.B n) (hG' : ∀ n, n < S.G.length → S'.G[n]? = S1.G[n]?) : ∀ {vs ds : List D}, RlL S1 ds vs → D.lowL S.G.length ds = true → RlL S' ds vs
  | [], ds, h, _ => by rw [RlL] at h ⊢; exact h
  | v :: vs, ds, h, l => by
    rw [RlL] at h ⊢
    obtain ⟨d, ds', rfl, h1, h2⟩ := h
    rw [D.lowL, Bool.and_eq_true] at l
    exact ⟨d, ds', rfl, rel_down hi hG hA hB hA' hB' hG' h1 l.1, relL_down hi hG hA hB hA' hB' hG' h2 l.2⟩
end
theorem old_ok (hi : HI S) (h1 : HI S1) (e : Ext S.G.length S S1) : oldOk S.G S1.G = true := by
  unfold oldOk
  rw [List.all_eq_true]
  intro i hi'
  rw [List.mem_range] at hi'
  rw [Bool.or_eq_true]
  by_cases hb : S.B i
  · obtain ⟨x, y, g⟩ := h1.bx i (e.b i hb)
    right
    rw [g]
    rfl
  · left
    exact decide_eq_true (e.same i hi' hb)
/-- the old part of a heap -/
theorem take_hi (hi : HI S) (h1 : HI S1) (e : Ext S.G.length S S1) : Ext S.G.length S ⟨S.A, S.B, S1.G.take S.G.length⟩ ∧ HI ⟨S.A, S.B, S1.G.take S.G.length⟩ := by
  have hl : (S1.G.take S.G.length).length = S.G.length := by rw [List.length_take]; exact Nat.min_eq_left e.len
  have hg : ∀ n, n < S.G.length → (S1.G.take S.G.length)[n]? = S1.G[n]? := fun n hn => by rw [List.getElem?_take, if_pos hn]
  refine ⟨⟨by show _ ≤ (S1.G.take S.G.length).length; omega, fun n h => h, fun n h => h, fun n hn hb => ?_, fun n h => ?_, fun n h => .inl h, fun n h => .inl h⟩, ⟨fun n h => ?_, fun n h => ?_, hi.ab, fun n c q => ?_⟩⟩
  · rw [show (Hs.mk S.A S.B (S1.G.take S.G.length)).G = S1.G.take S.G.length from rfl, hg n hn]
    exact e.same n hn hb
  · rw [show (Hs.mk S.A S.B (S1.G.take S.G.length)).G = S1.G.take S.G.length from rfl, hg n (hi.al n h)]
    exact e.sa n h
  · show n < (S1.G.take S.G.length).length
    rw [hl]
    exact hi.al n h
  · obtain ⟨x, y, q⟩ := h1.bx n (e.b n h)
    exact ⟨x, y, by rw [show (Hs.mk S.A S.B (S1.G.take S.G.length)).G = S1.G.take S.G.length from rfl, hg n (hi.bl h)]; exact q⟩
  · have q : (S1.G.take S.G.length)[n]? = some c := q
    show c.low (S1.G.take S.G.length).length = true
    rw [hl]
    have hn : n < S.G.length := by
      have := (List.getElem?_eq_some_iff.mp q).1
      omega
    rw [hg n hn] at q
    by_cases hb : S.B n
    · obtain ⟨x, y, q2⟩ := h1.bx n (e.b n hb)
      rw [q] at q2
      cases q2
      rfl
    · rw [e.same n hn hb] at q
      exact hi.low n c q
theorem gc_s (hi : HI S) (h1 : HI S1) (e : Ext S.G.length S S1) {d : D} {v : R} (r : RT S1 (.val d) v) {X : XP} : Sn S (gc S.G d S1.G) (fun d' S' => RT S' (.val d') v) X := by
  have hA : ∀ n, S1.A n → n < S.G.length → S.A n := fun n h hn => (e.fa n h).resolve_right (by omega)
  have hB : ∀ n, S1.B n → n < S.G.length → S.B n := fun n h hn => (e.fb n h).resolve_right (by omega)
  obtain ⟨t1, t2⟩ := take_hi hi h1 e
  have hl : (S1.G.take S.G.length).length = S.G.length := by rw [List.length_take]; exact Nat.min_eq_left e.len
  have hg : ∀ n, n < S.G.length → (S1.G.take S.G.length)[n]? = S1.G[n]? := fun n hn => by rw [List.getElem?_take, if_pos hn]
  unfold gc
  rw [if_pos ⟨old_ok hi h1 e, e.len⟩]
  split
  · rename_i hlow
    refine ⟨_, rfl, t1, t2, ?_⟩
    cases v with
    | val w =>
      obtain ⟨d', q, r1, r2⟩ := r
      cases q
      exact ⟨d, rfl, rel_down (S' := ⟨S.A, S.B, S1.G.take S.G.length⟩) hi e.sa hA hB (fun n h => h) (fun n h => h) hg r1 hlow, r2⟩
    | newS ds => exact r
    | newL vs =>
      obtain ⟨ds, r1, r2 | ⟨n, r2, r3, r4⟩⟩ := r
      · cases r2
      · cases r2
        rw [D.low] at hlow
        have hn := of_decide_eq_true hlow
        have hAn := hA n r3 hn
        have h4 : S.G[n]? = some (.lst ds) := by rw [← e.sa n hAn]; exact r4
        exact ⟨ds, relL_down (S' := ⟨S.A, S.B, S1.G.take S.G.length⟩) hi e.sa hA hB (fun n h => h) (fun n h => h) hg r1 (hi.low n _ h4), .inr ⟨n, rfl, hAn, by rw [show (Hs.mk S.A S.B (S1.G.take S.G.length)).G = S1.G.take S.G.length from rfl, hg n hn]; exact r4⟩⟩
    | newD t kvs =>
      obtain ⟨ds, r1, r2 | ⟨n, r2, r3, r4⟩⟩ := r
      · cases r2
      · cases r2
        rw [D.low] at hlow
        have hn := of_decide_eq_true hlow
        have hAn := hA n r3 hn
        have h4 : S.G[n]? = some (.dct t ds) := by rw [← e.sa n hAn]; exact r4
        have h5 := hi.low n _ h4
        refine ⟨ds, ⟨r1.1, r1.2.1, relL_down (S' := ⟨S.A, S.B, S1.G.take S.G.length⟩) hi e.sa hA hB (fun n h => h) (fun n h => h) hg r1.2.2 ?_⟩, .inr ⟨n, rfl, hAn, by rw [show (Hs.mk S.A S.B (S1.G.take S.G.length)).G = S1.G.take S.G.length from rfl, hg n hn]; exact r4⟩⟩
        have h6 : (ds.all fun p => D.low S.G.length p.1 && D.low S.G.length p.2) = true := h5
        clear r1 r4 h4 h5
        induction ds with
        | nil => rfl
        | cons p ds ih =>
          simp only [List.all_cons, Bool.and_eq_true] at h6
          rw [List.map_cons, D.lowL, h6.1.2, ih h6.2]
          rfl
  · split
    · rename_i m hnl
      have hm : ∃ c, S1.G[m]? = some c := by
        cases v with
        | val w =>
          obtain ⟨d', q, r1, r2⟩ := r
          cases q
          have := rel_low h1 r1
          rw [D.low] at this
          exact ⟨_, List.getElem?_eq_getElem (of_decide_eq_true this)⟩
        | newS ds => cases r.1
        | newL vs =>
          obtain ⟨ds, r1, r2 | ⟨n, r2, r3, r4⟩⟩ := r
          · cases r2
          · cases r2; exact ⟨_, r4⟩
        | newD t vs =>
          obtain ⟨ds, r1, r2 | ⟨n, r2, r3, r4⟩⟩ := r
          · cases r2
          · cases r2; exact ⟨_, r4⟩
      obtain ⟨c, hc⟩ := hm
      rw [hc]
      dsimp only
      split
      · rename_i hcl
        have hcl' : c.low (S1.G.take S.G.length).length = true := by rw [hl]; exact hcl
        have gA : ∀ n, n < S.G.length → (S1.G.take S.G.length ++ [c])[n]? = S1.G[n]? := fun n hn => by rw [List.getElem?_append_left (by omega)]; exact hg n hn
        have g0 : (S1.G.take S.G.length ++ [c])[S.G.length]? = some c := by rw [List.getElem?_append_right (by omega), hl]; simp
        cases v with
        | newS ds => cases r.1
        | val w =>
          obtain ⟨d', q, r1, r2⟩ := r
          cases q
          cases w with
          | ref k =>
            rw [Rl] at r1
            obtain ⟨rfl, n, q, hb⟩ := r1
            cases q
            obtain ⟨x, y, q2⟩ := h1.bx m hb
            rw [hc] at q2
            cases q2
            obtain ⟨t3, t4⟩ := new_own t2 hcl'
            simp only [hl] at t3
            have hel := e.len
            refine ⟨⟨S.A, fun n => S.B n ∨ n = S.G.length, S1.G.take S.G.length ++ [.lst [.int x, .int y]]⟩, rfl, ⟨by simp; omega, fun n h => h, fun n h => .inl h, fun n hn hb => ?_, fun n h => ?_, fun n h => .inl h, fun n h => h.imp_right fun z => by omega⟩, ⟨fun n h => ?_, fun n h => ?_, fun n h b => ?_, t4.low⟩, _, rfl, by rw [Rl]; exact ⟨rfl, _, rfl, .inr rfl⟩, rfl⟩
            · exact (gA n hn).trans (e.same n hn hb)
            · exact (gA n (hi.al n h)).trans (e.sa n h)
            · have := hi.al n h
              simp; omega
            · rcases h with h | rfl
              · obtain ⟨x', y', z⟩ := h1.bx n (e.b n h)
                exact ⟨x', y', (gA n (hi.bl h)).trans z⟩
              · exact ⟨x, y, g0⟩
            · rcases b with b | rfl
              · exact hi.ab n h b
              · have := hi.al _ h; omega
          | frl vs => simp [nfD] at r2
          | tup vs => rw [Rl] at r1; obtain ⟨_, q, _⟩ := r1; cases q
          | _ => rw [Rl] at r1; cases r1
        | newL vs =>
          obtain ⟨ds, r1, r2 | ⟨n, r2, r3, r4⟩⟩ := r
          · cases r2
          · cases r2
            rw [hc] at r4
            cases r4
            obtain ⟨S', t3, t4, t5, t6, t7⟩ := new_cell t2 hcl'
            simp only [hl] at t4 t6 t7
            have t8 : S'.G = S1.G.take S.G.length ++ [.lst ds] := t3
            refine ⟨S', t8, t1.trans t4, t5, ds, relL_down (S' := S') hi e.sa hA hB (fun n h => t4.a n h) (fun n h => t4.b n h) (fun n hn => by rw [t8]; exact gA n hn) r1 hcl, .inr ⟨_, rfl, t6, t7⟩⟩
        | newD t kvs =>
          obtain ⟨ds, r1, r2 | ⟨n, r2, r3, r4⟩⟩ := r
          · cases r2
          · cases r2
            rw [hc] at r4
            cases r4
            obtain ⟨S', t3, t4, t5, t6, t7⟩ := new_cell t2 hcl'
            simp only [hl] at t4 t6 t7
            have t8 : S'.G = S1.G.take S.G.length ++ [.dct t ds] := t3
            have h6 : (ds.all fun p => D.low S.G.length p.1 && D.low S.G.length p.2) = true := hcl
            have h7 : D.lowL S.G.length (ds.map (·.2)) = true := by
              clear r1 hc hcl hcl' gA g0 t3 t8 t7
              induction ds with
              | nil => rfl
              | cons p ds ih =>
                simp only [List.all_cons, Bool.and_eq_true] at h6
                rw [List.map_cons, D.lowL, h6.1.2, ih h6.2]
                rfl
            refine ⟨S', t8, t1.trans t4, t5, ds, ⟨r1.1, r1.2.1, relL_down (S' := S') hi e.sa hA hB (fun n h => t4.a n h) (fun n h => t4.b n h) (fun n hn => by rw [t8]; exact gA n hn) r1.2.2 h7⟩, .inr ⟨_, rfl, t6, t7⟩⟩
      · exact ⟨S1, rfl, e, h1, r⟩
    · exact ⟨S1, rfl, e, h1, r⟩
end
/-- the two tables tell the same texts -/
structure TabOk (T : Tab) (TP : PTab) : Prop where
  take : IsTake T
  box : IsBox T
  fn : ∀ (f : Str) (fd : PFn), TP f = some fd → T f = some fd.strip
theorem rts_len {S : Hs} : ∀ {ds : List D} {rs : List R}, RTs S ds rs → ds.length = rs.length
  | [], [], _ => rfl
  | d :: ds, r :: rs, h => by simp [rts_len h.2]
  | [], _ :: _, h => h.elim
  | _ :: _, [], h => h.elim
theorem inv_args {S : Hs} : ∀ {ds : List D} {rs : List R}, RTs S ds rs → ∀ {i : Nat} {r : R}, rs[i]? = some r → ∃ d, ds[i]? = some d ∧ RT S (.val d) r
  | [], [], _, _, _, e => by simp at e
  | d :: ds, r :: rs, h, i, q, e => by
    cases i with
    | zero => simp at e; subst e; exact ⟨d, rfl, h.1⟩
    | succ i => simp at e; exact inv_args h.2 e
  | [], _ :: _, h, _, _, _ => h.elim
  | _ :: _, [], h, _, _, _ => h.elim
theorem inv_0 {S : Hs} {ds : List D} {rs : List R} {k N : Nat} (h : RTs S ds rs) : Inv N S (rs.map (fun r => some (.fz, r)) ++ List.replicate k none) (ds.map some ++ List.replicate k none) := by
  have no : ∀ (i : Nat) (t : Tag) (r : R), (rs.map (fun r => some (Tag.fz, r)) ++ List.replicate k none)[i]? = some (some (t, r)) → t = .fz ∧ rs[i]? = some r := fun i t r e => by
    by_cases hi : i < rs.length
    · rw [List.getElem?_append_left (by simpa using hi), List.getElem?_map] at e
      rw [List.getElem?_eq_getElem hi] at e ⊢
      simp only [Option.map_some, Option.some.injEq, Prod.mk.injEq] at e
      exact ⟨e.1.symm, by rw [e.2]⟩
    · rw [List.getElem?_append_right (by simpa using hi)] at e
      have := List.mem_of_getElem? e
      rw [List.mem_replicate] at this
      cases this.2
  refine ⟨by simp [rts_len h], fun i r e => ?_, fun i r e => ?_, fun i r e => ?_, fun i j r q n m hij e1 e2 => ?_⟩
  · obtain ⟨_, e2⟩ := no i _ r e
    obtain ⟨d, e3, q⟩ := inv_args h e2
    refine ⟨d, ?_, q⟩
    have hi := (List.getElem?_eq_some_iff.mp e3).1
    rw [List.getElem?_append_left (by simpa using hi), List.getElem?_map, e3]
    rfl
  · cases (no i _ r e).1
  · cases (no i _ r e).1
  · cases (no i _ r e1).1
theorem call_s {T : Tab} {TP : PTab} {Γ : Str → Option D} (t : TabOk T TP) (hΓ : ∀ x d, Γ x = some d → d.fl = true) : ∀ n : Nat, CallOk (callF T Γ n) (callP TP Γ n)
  | 0 => fun f ds rs Q X S h _ _ => h.elim
  | n + 1 => fun f ds rs Q X S h hi hr => by
    simp only [callP] at h
    split at h
    · rename_i hf
      subst hf
      unfold ptake at h
      split at h
      · rename_i m
        obtain ⟨d1, d2, rfl⟩ : ∃ d1 d2, ds = [d1, d2] := by
          have := rts_len hr
          match ds, this with
          | [a, b], _ => exact ⟨a, b, rfl⟩
        obtain ⟨h1, h2, _⟩ := hr
        obtain ⟨_, q1, r1, _⟩ := h1
        cases q1
        rw [Rl] at r1
        obtain ⟨_, b, rfl, hb⟩ := r1
        obtain ⟨_, q2, r2, _⟩ := h2
        cases q2
        rw [Rl] at r2
        subst r2
        obtain ⟨x, y, hx⟩ := hi.bx b hb
        obtain ⟨r, G1, e, i, x', y', rfl, h3, h4, rfl⟩ := wp_eq (take_wp (Γ := Γ) (d := n) t.take hx h.1.1 h.1.2)
        rw [e]
        have hbl := hi.bl hb
        have ne : ∀ k, k ≠ b → (S.G.set b (.lst [.int x', .int y']))[k]? = S.G[k]? := fun k hk => List.getElem?_set_ne (Ne.symm hk)
        refine ⟨⟨S.A, S.B, S.G.set b (.lst [.int x', .int y'])⟩, rfl, ⟨by simp, fun k h => h, fun k h => h, fun k hk hkb => ne k (fun z => hkb (z ▸ hb)), fun k hk => ne k (fun z => hi.ab k hk (z ▸ hb)), fun k h => .inl h, fun k h => .inl h⟩, ⟨fun k hk => by simpa using hi.al k hk, fun k hk => ?_, hi.ab, fun k c q => ?_⟩, _, rt_int, h.2 i h3 h4⟩
        · by_cases hkb : k = b
          · subst hkb; exact ⟨x', y', List.getElem?_set_self hbl⟩
          · obtain ⟨x2, y2, q⟩ := hi.bx k hk
            exact ⟨x2, y2, (ne k hkb).trans q⟩
        · have q : (S.G.set b (.lst [.int x', .int y']))[k]? = some c := q
          show c.low (S.G.set b (.lst [.int x', .int y'])).length = true
          rw [List.length_set]
          by_cases hkb : k = b
          · subst hkb
            rw [List.getElem?_set_self hbl] at q
            cases q
            rfl
          · rw [ne k hkb] at q
            exact hi.low k c q
      · exact h.elim
    · split at h
      · rename_i hf
        subst hf
        unfold pbox at h
        split at h
        · rename_i es k
          obtain ⟨d1, d2, rfl⟩ : ∃ d1 d2, ds = [d1, d2] := by
            have := rts_len hr
            match ds, this with
            | [a, b], _ => exact ⟨a, b, rfl⟩
          obtain ⟨h1, h2, _⟩ := hr
          obtain ⟨⟨ns, rfl, hns⟩, ⟨k0, k1⟩, q⟩ := h
          obtain ⟨q1, _⟩ := h1
          cases q1
          obtain ⟨_, q2, r2, _⟩ := h2
          cases q2
          rw [Rl] at r2
          subst r2
          obtain ⟨j, rfl⟩ := Int.eq_ofNat_of_zero_le k0
          obtain ⟨r, G1, e, x, y, rfl, rfl⟩ := wp_eq (box_wp (Γ := Γ) (d := n) (G := S.G) t.box (k := j) (by omega) hns)
          rw [e]
          obtain ⟨e1, e2⟩ := new_own hi (c := .lst [.int x, .int y]) rfl
          refine ⟨⟨S.A, fun n => S.B n ∨ n = S.G.length, S.G ++ [.lst [.int x, .int y]]⟩, rfl, ⟨e1.len, fun n h => h, fun n h => .inl h, e1.same, e1.sa, fun n h => .inl h, fun n h => h.imp_right fun z => by omega⟩, ⟨e2.al, fun n h => ?_, fun n h b => ?_, e2.low⟩, R.val (.ref 0), (show RT ⟨S.A, fun n => S.B n ∨ n = S.G.length, S.G ++ [.lst [.int x, .int y]]⟩ (.val (.ref S.G.length)) (.val (.ref 0)) from ⟨_, rfl, by rw [Rl]; exact ⟨rfl, _, rfl, .inr rfl⟩, rfl⟩), q⟩
          · rcases h with h | rfl
            · exact e2.bx n h
            · exact ⟨x, y, by simp⟩
          · rcases b with b | rfl
            · exact hi.ab n h b
            · have := hi.al _ h; omega
        · exact h.elim
      · split at h
        · exact h.elim
        · rename_i fd hfd
          have hT := t.fn f fd hfd
          have hlen := rts_len hr
          simp only [callF, hT]
          rw [if_pos (by show ds.length = fd.np; rw [hlen]; exact h.1)]
          have c : Cx S.G.length S (rs.map (fun r => some (.fz, r)) ++ List.replicate (fd.ns - fd.np) none) (ds.map some ++ List.replicate (fd.ns - fd.np) none) := ⟨hi, inv_0 hr, Nat.le_refl _⟩
          have q := pss_s (call_s t hΓ n) hΓ fd.body h.2 c
          show Sn S (match exSs (callF T Γ n) Γ fd.body.strip (ds.map some ++ List.replicate (fd.ns - fd.np) none) S.G with
            | .rt v G1 => gc S.G v G1
            | .nx _ G1 => gc S.G .non G1
            | .ex c v _ G1 => if (oldOk S.G G1 && v.low S.G.length) = true ∧ S.G.length ≤ G1.length then .ex c v (G1.take S.G.length) else .bad
            | _ => .bad) _ _
          cases e : exSs (callF T Γ n) Γ fd.body.strip (ds.map some ++ List.replicate (fd.ns - fd.np) none) S.G with
          | rt v G1 =>
            rw [e] at q
            obtain ⟨S1, w, rfl, ex, hi1, r, q⟩ := q
            exact sn_imp (gc_s hi hi1 ex r) fun d S' _ _ r' => ⟨w, r', q⟩
          | nx σ' G1 =>
            rw [e] at q
            obtain ⟨S1, ρ', rfl, ex, c1, q⟩ := q
            exact sn_imp (gc_s (v := .val .non) hi c1.hi ex (rt_flat rfl)) fun d S' _ _ r' => ⟨_, r', q⟩
          | ex cl v σ' G1 =>
            rw [e] at q
            obtain ⟨hv, S1, ρ', rfl, ex, c1, q⟩ := q
            dsimp only
            rw [if_pos ⟨by rw [old_ok hi c1.hi ex, fl_low hv]; rfl, ex.len⟩]
            obtain ⟨t1, t2⟩ := take_hi hi c1.hi ex
            exact ⟨hv, q, _, rfl, t1, t2⟩
          | bk σ' G1 => rw [e] at q; obtain ⟨_, _, _, _, _, q⟩ := q; exact q.elim
          | ct σ' G1 => rw [e] at q; obtain ⟨_, _, _, _, _, q⟩ := q; exact q.elim
          | bad => rw [e] at q; exact q.elim
/-- a law that holds without a heap -/
theorem law_holds {T : Tab} {TP : PTab} {Γ : Str → Option D} (t : TabOk T TP) (hΓ : ∀ x d, Γ x = some d → d.fl = true) {n : Nat} {f : Str} {ns : List Int} (h : callP TP Γ n f [.newS (ns.map .int)] (fun r => r = .val (.bl true)) noX) : ∃ G', callF T Γ n f [.frl (ns.map .int)] [] = .ok (.bl true) G' := by
  have hi : HI ⟨fun _ => False, fun _ => False, []⟩ := ⟨fun n h => h.elim, fun n h => h.elim, fun n h => h.elim, fun n c e => by simp at e⟩
  have := call_s t hΓ n f [.frl (ns.map .int)] [.newS (ns.map .int)] _ _ ⟨fun _ => False, fun _ => False, []⟩ h hi ⟨⟨rfl, by rw [flL_iff]; intro d hd; obtain ⟨i, _, rfl⟩ := List.mem_map.mp hd; rfl⟩, trivial⟩
  cases e : callF T Γ n f [.frl (ns.map .int)] [] with
  | bad => rw [e] at this; exact this.elim
  | ex c d G => rw [e] at this; exact this.2.1.elim
  | ok d G =>
    rw [e] at this
    obtain ⟨S', rfl, _, _, v, r, rfl⟩ := this
    have := rt_sc r rfl
    cases this
    exact ⟨_, rfl⟩
end LK

set_option Elab.async false
set_option linter.all false
set_option autoImplicit false
set_option maxRecDepth 100000
set_option maxHeartbeats 1000000
/-! PkWp: rules for the heapless semantics. -/
namespace LK
open PySem
section
variable {C : CallP} {Γ : Str → Option D} {ρ : PEnv} {Q : R → Prop} {X : XP}
@[simp] theorem pe_int {i : Int} : pe C Γ (.int i) ρ Q X = Q (.val (.int i)) := by rw [pe] <;> rfl
@[simp] theorem pe_bl {i : Bool} : pe C Γ (.bl i) ρ Q X = Q (.val (.bl i)) := by rw [pe] <;> rfl
@[simp] theorem pe_non : pe C Γ .non ρ Q X = Q (.val .non) := by rw [pe] <;> rfl
@[simp] theorem pe_str {i : Str} : pe C Γ (.str i) ρ Q X = Q (.val (.str i)) := by rw [pe] <;> rfl
@[simp] theorem pe_var {i : Nat} : pe C Γ (.var i) ρ Q X = match ρ[i]? with
  | some (some (.fz, r)) => Q r
  | _ => False := by rw [pe] <;> rfl
theorem pe_glob {x : Str} {d : D} (h : Γ x = some d) : pe C Γ (.glob x) ρ Q X = Q (.val d) := by rw [pe, h]
@[simp] theorem pe_tup {es : Es} : pe C Γ (.tup es) ρ Q X = pes C Γ es ρ (fun ds => Q (.val (.tup ds))) X := by rw [pe] <;> rfl
@[simp] theorem pe_lst {es : Es} : pe C Γ (.lst es) ρ Q X = pes C Γ es ρ (fun ds => Q (.newL ds)) X := by rw [pe] <;> rfl
@[simp] theorem pe_dnew {t : Bool} : pe C Γ (.dnew t) ρ Q X = Q (.newD t []) := by rw [pe] <;> rfl
@[simp] theorem pe_bin {op : Bop} {a b : E} : pe C Γ (.bin op a b) ρ Q X = plook ρ a (fun Q => pe C Γ a ρ Q X) fun x => plook ρ b (fun Q => pe C Γ b ρ Q X) fun y => (binR op x y []).wp fun z _ => Q z := by rw [pe] <;> rfl
@[simp] theorem pe_neg {a : E} : pe C Γ (.neg a) ρ Q X = pe C Γ a ρ (fun x => match x with
  | .val (.int i) => Q (.val (.int (-i)))
  | _ => False) X := by rw [pe] <;> rfl
@[simp] theorem pe_cmp {op : Cop} {a b : E} : pe C Γ (.cmp op a b) ρ Q X = plook ρ a (fun Q => pe C Γ a ρ Q X) fun x => plook ρ b (fun Q => pe C Γ b ρ Q X) fun y => match cmpP b.isVar op x y with
  | some t => Q (.val (.bl t))
  | none => False := by rw [pe] <;> rfl
@[simp] theorem pe_chain {o p : Cop} {a b c : E} : pe C Γ (.chain o p a b c) ρ Q X = pe C Γ a ρ (fun x => pe C Γ b ρ (fun y => match cmpP false o x y with
  | some true => pe C Γ c ρ (fun z => match cmpP false p y z with
    | some t => Q (.val (.bl t))
    | none => False) X
  | some false => Q (.val (.bl false))
  | none => False) X) X := by rw [pe] <;> rfl
@[simp] theorem pe_and {a b : E} : pe C Γ (.and a b) ρ Q X = pe C Γ a ρ (fun x => Bif x (pe C Γ b ρ Q X) (Q (.val (.bl false)))) X := by rw [pe] <;> rfl
@[simp] theorem pe_or {a b : E} : pe C Γ (.or a b) ρ Q X = pe C Γ a ρ (fun x => Bif x (Q (.val (.bl true))) (pe C Γ b ρ Q X)) X := by rw [pe] <;> rfl
@[simp] theorem pe_not {a : E} : pe C Γ (.not a) ρ Q X = pe C Γ a ρ (fun x => Bif x (Q (.val (.bl false))) (Q (.val (.bl true)))) X := by rw [pe] <;> rfl
@[simp] theorem pe_ite {c a b : E} : pe C Γ (.ite c a b) ρ Q X = pe C Γ c ρ (fun x => Bif x (pe C Γ a ρ Q X) (pe C Γ b ρ Q X)) X := by rw [pe] <;> rfl
@[simp] theorem pe_idx {a i : E} : pe C Γ (.idx a i) ρ Q X = plook ρ a (fun Q => pe C Γ a ρ Q X) fun x => pe C Γ i ρ (fun y => match idxP a.isVar x y with
  | some d => Q (toR d)
  | none => False) X := by rw [pe] <;> rfl
@[simp] theorem pe_slc {a lo hi : E} : pe C Γ (.slc a lo hi) ρ Q X = plook ρ a (fun Q => pe C Γ a ρ Q X) fun x => ppart lo (fun Q => pe C Γ lo ρ Q X) fun l => ppart hi (fun Q => pe C Γ hi ρ Q X) fun h => (cutR x l h []).wp fun z _ => Q z := by rw [pe] <;> rfl
@[simp] theorem pe_call {f : Str} {es ks : Es} {dd : List D} : pe C Γ (.call f es ks dd) ρ Q X = pers C Γ es ρ (fun rs => pers C Γ ks ρ (fun zs => D.flL dd = true ∧ C f (rs ++ zs ++ dd.map .val) Q X) X) X := by rw [pe] <;> rfl
@[simp] theorem pe_len {a : E} : pe C Γ (.len a) ρ Q X = plook ρ a (fun Q => pe C Γ a ρ Q X) fun x => match lenP x with
  | some n => Q (.val (.int n))
  | none => False := by rw [pe] <;> rfl
@[simp] theorem pe_abs {a : E} : pe C Γ (.abs a) ρ Q X = pe C Γ a ρ (fun x => match x with
  | .val (.int i) => Q (.val (.int (if i < 0 then -i else i)))
  | _ => False) X := by rw [pe] <;> rfl
@[simp] theorem pe_int1 {a : E} : pe C Γ (.int1 a) ρ Q X = pe C Γ a ρ (fun x => match x with
  | .val (.int i) => Q (.val (.int i))
  | .val (.bl b) => Q (.val (.int (if b then 1 else 0)))
  | _ => False) X := by rw [pe] <;> rfl
@[simp] theorem pe_min2 {a b : E} : pe C Γ (.min2 a b) ρ Q X = pe C Γ a ρ (fun x => pe C Γ b ρ (fun y => match x, y with
  | .val (.int i), .val (.int j) => Q (.val (.int (if j < i then j else i)))
  | _, _ => False) X) X := by rw [pe] <;> rfl
@[simp] theorem pe_max2 {a b : E} : pe C Γ (.max2 a b) ρ Q X = pe C Γ a ρ (fun x => pe C Γ b ρ (fun y => match x, y with
  | .val (.int i), .val (.int j) => Q (.val (.int (if j > i then j else i)))
  | _, _ => False) X) X := by rw [pe] <;> rfl
@[simp] theorem pe_isi {a : E} {t : Ty} : pe C Γ (.isi a t) ρ Q X = plook ρ a (fun Q => pe C Γ a ρ Q X) fun x => match isiR x t [] with
  | some b => Q (.val (.bl b))
  | none => False := by rw [pe] <;> rfl
@[simp] theorem pe_seq {a : E} {b : Sb} : pe C Γ (.seq b a) ρ Q X = plook ρ a (fun Q => pe C Γ a ρ Q X) fun x => (seqR b x []).wp fun z _ => Q z := by rw [pe] <;> rfl
@[simp] theorem pe_lrng {a b : E} : pe C Γ (.lrng a b) ρ Q X = pe C Γ a ρ (fun x => pe C Γ b ρ (fun y => match x, y with
  | .val (.int i), .val (.int j) => ((-(LIM : Int) ≤ i ∧ i ≤ LIM) ∧ -(LIM : Int) ≤ j ∧ j ≤ LIM) ∧ Q (.newL ((List.range (j - i).toNat).map fun (k : Nat) => .int (i + k)))
  | _, _ => False) X) X := by rw [pe] <;> rfl
/-- a comprehension's turn -/
def cbody (C : CallP) (Γ : Str → Option D) (tg : Tg) (ifs : Es) (e : E) (ρ : PEnv) : D → (Option D → Prop) → Prop := fun d k => pbind tg (toR d) ρ fun ρ1 => pifs C Γ ifs ρ1 fun t => if t = true then pe C Γ e ρ1 (fun x => pd x fun d => k (some d)) noX else k none
def dbody (C : CallP) (Γ : Str → Option D) (tg : Tg) (ifs : Es) (ke e : E) (ρ : PEnv) : D → (Option (D × D) → Prop) → Prop := fun d k => pbind tg (toR d) ρ fun ρ1 => pifs C Γ ifs ρ1 fun t => if t = true then pe C Γ ke ρ1 (fun x => pd x fun d => pe C Γ e ρ1 (fun y => pd y fun z => k (some (d, z))) noX) noX else k none
@[simp] theorem pe_comp {e : E} {tg : Tg} {i : I} {ifs : Es} : pe C Γ (.comp e tg i ifs) ρ Q X = pi C Γ true i ρ (fun ds => ds.length ≤ LIM ∧ pcomp (cbody C Γ tg ifs e ρ) ds [] fun ds => Q (.newL ds)) X := by rw [pe]; rfl
@[simp] theorem pe_dcomp {t : Bool} {ke e : E} {tg : Tg} {i : I} {ifs : Es} : pe C Γ (.dcomp t ke e tg i ifs) ρ Q X = pi C Γ true i ρ (fun ds => pdcomp (dbody C Γ tg ifs ke e ρ) ds [] fun kvs => Q (.newD false kvs)) X := by rw [pe]; rfl
@[simp] theorem pes_nil {Q : List D → Prop} : pes C Γ .nil ρ Q X = Q [] := by rw [pes] <;> rfl
@[simp] theorem pes_cons {e : E} {r : Es} {Q : List D → Prop} : pes C Γ (.cons e r) ρ Q X = pe C Γ e ρ (fun x => pd x fun d => pes C Γ r ρ (fun ds => Q (d :: ds)) X) X := by rw [pes] <;> rfl
@[simp] theorem pers_nil {Q : List R → Prop} : pers C Γ .nil ρ Q X = Q [] := by rw [pers] <;> rfl
@[simp] theorem pers_cons {e : E} {r : Es} {Q : List R → Prop} : pers C Γ (.cons e r) ρ Q X = pe C Γ e ρ (fun x => pers C Γ r ρ (fun ds => Q (x :: ds)) X) X := by rw [pers] <;> rfl
@[simp] theorem pifs_nil {Q : Bool → Prop} : pifs C Γ .nil ρ Q = Q true := by rw [pifs] <;> rfl
@[simp] theorem pifs_cons {e : E} {r : Es} {Q : Bool → Prop} : pifs C Γ (.cons e r) ρ Q = pe C Γ e ρ (fun x => Bif x (pifs C Γ r ρ Q) (Q false)) noX := by rw [pifs] <;> rfl
@[simp] theorem pi_ex {lk : Bool} {e : E} {Q : List D → Prop} : pi C Γ lk (.ex e) ρ Q X = (if lk = true then plook ρ e (fun Q => pe C Γ e ρ Q X) else fun Q => pe C Γ e ρ Q X) fun x => match itemsP x with
  | some ds => Q ds
  | none => False := by rw [pi] <;> rfl
@[simp] theorem pi_rng1 {lk : Bool} {a : E} {Q : List D → Prop} : pi C Γ lk (.rng1 a) ρ Q X = pe C Γ a ρ (fun x => match x with
  | .val (.int j) => (-(LIM : Int) ≤ j ∧ j ≤ LIM) ∧ Q ((List.range j.toNat).map fun (k : Nat) => .int k)
  | _ => False) X := by rw [pi] <;> rfl
@[simp] theorem pi_rng2 {lk : Bool} {a b : E} {Q : List D → Prop} : pi C Γ lk (.rng2 a b) ρ Q X = pe C Γ a ρ (fun x => pe C Γ b ρ (fun y => match x, y with
  | .val (.int i), .val (.int j) => ((-(LIM : Int) ≤ i ∧ i ≤ LIM) ∧ -(LIM : Int) ≤ j ∧ j ≤ LIM) ∧ Q ((List.range (j - i).toNat).map fun (k : Nat) => .int (i + k))
  | _, _ => False) X) X := by rw [pi] <;> rfl
@[simp] theorem pi_enum {lk : Bool} {e : E} {Q : List D → Prop} : pi C Γ lk (.enum e) ρ Q X = (if lk = true then plook ρ e (fun Q => pe C Γ e ρ Q X) else fun Q => pe C Γ e ρ Q X) fun x => match itemsP x with
  | some ds => Q (ds.zipIdx.map fun p => .tup [.int p.2, p.1])
  | none => False := by rw [pi] <;> rfl
@[simp] theorem pi_zip {lk : Bool} {a b : E} {Q : List D → Prop} : pi C Γ lk (.zip a b) ρ Q X = (if lk = true then plook ρ a (fun Q => pe C Γ a ρ Q X) else fun Q => pe C Γ a ρ Q X) fun x => (if lk = true then plook ρ b (fun Q => pe C Γ b ρ Q X) else fun Q => pe C Γ b ρ Q X) fun y => x.isTup = y.isTup ∧ match itemsP x, itemsP y with
  | some ds, some es => Q ((ds.zip es).map fun p => .tup [p.1, p.2])
  | _, _ => False := by rw [pi] <;> rfl
@[simp] theorem isVar_v {i : Nat} : (E.var i).isVar = true := rfl
@[simp] theorem plook_var {i : Nat} {k : (R → Prop) → Prop} : plook ρ (.var i) k Q = match ρ[i]? with
  | some (some (.fz, r)) => Q r
  | some (some (.ow, r)) => Q r
  | _ => False := rfl
theorem plook_nv {a : E} {k : (R → Prop) → Prop} (h : a.isVar = false) : plook ρ a k Q = k Q := by cases a <;> first | rfl | cases h
@[simp] theorem plook_idx {a b : E} {k : (R → Prop) → Prop} : plook ρ (.idx a b) k Q = k Q := rfl
@[simp] theorem plook_int {i : Int} {k : (R → Prop) → Prop} : plook ρ (.int i) k Q = k Q := rfl
@[simp] theorem plook_non {k : (R → Prop) → Prop} : plook ρ .non k Q = k Q := rfl
@[simp] theorem plook_bl {b : Bool} {k : (R → Prop) → Prop} : plook ρ (.bl b) k Q = k Q := rfl
@[simp] theorem plook_str {b : Str} {k : (R → Prop) → Prop} : plook ρ (.str b) k Q = k Q := rfl
@[simp] theorem plook_glob {b : Str} {k : (R → Prop) → Prop} : plook ρ (.glob b) k Q = k Q := rfl
@[simp] theorem plook_tup {b : Es} {k : (R → Prop) → Prop} : plook ρ (.tup b) k Q = k Q := rfl
@[simp] theorem plook_lst {b : Es} {k : (R → Prop) → Prop} : plook ρ (.lst b) k Q = k Q := rfl
@[simp] theorem plook_dnew {b : Bool} {k : (R → Prop) → Prop} : plook ρ (.dnew b) k Q = k Q := rfl
@[simp] theorem plook_bin {o : Bop} {a b : E} {k : (R → Prop) → Prop} : plook ρ (.bin o a b) k Q = k Q := rfl
@[simp] theorem plook_neg {a : E} {k : (R → Prop) → Prop} : plook ρ (.neg a) k Q = k Q := rfl
@[simp] theorem plook_cmp {o : Cop} {a b : E} {k : (R → Prop) → Prop} : plook ρ (.cmp o a b) k Q = k Q := rfl
@[simp] theorem plook_and {a b : E} {k : (R → Prop) → Prop} : plook ρ (.and a b) k Q = k Q := rfl
@[simp] theorem plook_or {a b : E} {k : (R → Prop) → Prop} : plook ρ (.or a b) k Q = k Q := rfl
@[simp] theorem plook_not {a : E} {k : (R → Prop) → Prop} : plook ρ (.not a) k Q = k Q := rfl
@[simp] theorem plook_ite {a b c : E} {k : (R → Prop) → Prop} : plook ρ (.ite a b c) k Q = k Q := rfl
@[simp] theorem plook_slc {a b c : E} {k : (R → Prop) → Prop} : plook ρ (.slc a b c) k Q = k Q := rfl
@[simp] theorem plook_call {f : Str} {a b : Es} {c : List D} {k : (R → Prop) → Prop} : plook ρ (.call f a b c) k Q = k Q := rfl
@[simp] theorem plook_len {a : E} {k : (R → Prop) → Prop} : plook ρ (.len a) k Q = k Q := rfl
@[simp] theorem plook_abs {a : E} {k : (R → Prop) → Prop} : plook ρ (.abs a) k Q = k Q := rfl
@[simp] theorem plook_int1 {a : E} {k : (R → Prop) → Prop} : plook ρ (.int1 a) k Q = k Q := rfl
@[simp] theorem plook_min2 {a b : E} {k : (R → Prop) → Prop} : plook ρ (.min2 a b) k Q = k Q := rfl
@[simp] theorem plook_max2 {a b : E} {k : (R → Prop) → Prop} : plook ρ (.max2 a b) k Q = k Q := rfl
@[simp] theorem plook_seq {b : Sb} {a : E} {k : (R → Prop) → Prop} : plook ρ (.seq b a) k Q = k Q := rfl
@[simp] theorem plook_lrng {a b : E} {k : (R → Prop) → Prop} : plook ρ (.lrng a b) k Q = k Q := rfl
@[simp] theorem plook_comp {e : E} {tg : Tg} {i : I} {ifs : Es} {k : (R → Prop) → Prop} : plook ρ (.comp e tg i ifs) k Q = k Q := rfl
@[simp] theorem plook_dcomp {t : Bool} {ke e : E} {tg : Tg} {i : I} {ifs : Es} {k : (R → Prop) → Prop} : plook ρ (.dcomp t ke e tg i ifs) k Q = k Q := rfl
@[simp] theorem ppart_non {k : (R → Prop) → Prop} {Q : Option Int → Prop} : ppart .non k Q = Q none := rfl
theorem ppart_ex {e : E} {k : (R → Prop) → Prop} {Q : Option Int → Prop} (h : (match e with
    | .non => true
    | _ => false) = false) : ppart e k Q = k fun r => match r with
    | .val (.int i) => Q (some i)
    | _ => False := by cases e <;> first | rfl | cases h
@[simp] theorem ppart_var {i : Nat} {k : (R → Prop) → Prop} {Q : Option Int → Prop} : ppart (.var i) k Q = k fun r => match r with
    | .val (.int i) => Q (some i)
    | _ => False := rfl
@[simp] theorem ppart_int {i : Int} {k : (R → Prop) → Prop} {Q : Option Int → Prop} : ppart (.int i) k Q = k fun r => match r with
    | .val (.int i) => Q (some i)
    | _ => False := rfl
@[simp] theorem ppart_bin {o : Bop} {a b : E} {k : (R → Prop) → Prop} {Q : Option Int → Prop} : ppart (.bin o a b) k Q = k fun r => match r with
    | .val (.int i) => Q (some i)
    | _ => False := rfl
@[simp] theorem ppart_len {a : E} {k : (R → Prop) → Prop} {Q : Option Int → Prop} : ppart (.len a) k Q = k fun r => match r with
    | .val (.int i) => Q (some i)
    | _ => False := rfl
@[simp] theorem ppart_call {f : Str} {a b : Es} {c : List D} {k : (R → Prop) → Prop} {Q : Option Int → Prop} : ppart (.call f a b c) k Q = k fun r => match r with
    | .val (.int i) => Q (some i)
    | _ => False := rfl
/-! ### values -/
@[simp] theorem toR_non : toR .non = .val .non := rfl
@[simp] theorem toR_bl {b : Bool} : toR (.bl b) = .val (.bl b) := rfl
@[simp] theorem toR_int {i : Int} : toR (.int i) = .val (.int i) := rfl
@[simp] theorem toR_str {i : Str} : toR (.str i) = .val (.str i) := rfl
@[simp] theorem toR_tup {i : List D} : toR (.tup i) = .val (.tup i) := rfl
@[simp] theorem toR_frl {i : List D} : toR (.frl i) = .newL i := rfl
@[simp] theorem toR_ref {i : Nat} : toR (.ref i) = .val (.ref i) := rfl
theorem toR_fl {d : D} (h : d.fl = true) : toR d = .val d := by cases d <;> first | rfl | cases h
@[simp] theorem pd_val {d : D} {Q : D → Prop} : pd (.val d) Q = Q d := rfl
@[simp] theorem pd_newL {ds : List D} {Q : D → Prop} : pd (.newL ds) Q = Q (.frl ds) := rfl
@[simp] theorem fl_int {i : Int} : (D.int i).fl = true := rfl
@[simp] theorem fl_non : D.non.fl = true := rfl
@[simp] theorem fl_bl {b : Bool} : (D.bl b).fl = true := rfl
@[simp] theorem fl_str {b : Str} : (D.str b).fl = true := rfl
@[simp] theorem fl_tup {ds : List D} : (D.tup ds).fl = D.flL ds := by rw [D.fl]
@[simp] theorem flL_nil : D.flL [] = true := rfl
@[simp] theorem flL_cons {d : D} {ds : List D} : D.flL (d :: ds) = (d.fl && D.flL ds) := by rw [D.flL]
@[simp] theorem flL_append {a b : List D} : D.flL (a ++ b) = (D.flL a && D.flL b) := by
  induction a with
  | nil => simp
  | cons x a ih => simp [ih, Bool.and_assoc]
theorem flL_map {α : Type} {f : α → D} {l : List α} (h : ∀ a ∈ l, (f a).fl = true) : D.flL (l.map f) = true := by
  rw [flL_iff]
  intro d hd
  obtain ⟨a, ha, rfl⟩ := List.mem_map.mp hd
  exact h a ha
@[simp] theorem flL_ints {l : List Int} : D.flL (l.map .int) = true := flL_map fun _ _ => rfl
@[simp] theorem flat_newL {ds : List D} : (R.newL ds).flat = D.flL ds := rfl
@[simp] theorem flat_val {d : D} : (R.val d).flat = d.fl := rfl
@[simp] theorem flat_newD {t : Bool} {kvs : List (D × D)} : (R.newD t kvs).flat = (D.flL (kvs.map (·.1)) && D.flL (kvs.map (·.2))) := rfl
@[simp] theorem rf_lst {es : Es} : (E.lst es).rf = true := rfl
@[simp] theorem rf_comp {e : E} {tg : Tg} {i : I} {ifs : Es} : (E.comp e tg i ifs).rf = true := rfl
@[simp] theorem rf_dcomp {t : Bool} {ke e : E} {tg : Tg} {i : I} {ifs : Es} : (E.dcomp t ke e tg i ifs).rf = true := rfl
@[simp] theorem rf_dnew {t : Bool} : (E.dnew t).rf = true := rfl
@[simp] theorem rf_lrng {a b : E} : (E.lrng a b).rf = true := rfl
@[simp] theorem rf_list {a : E} : (E.seq .list a).rf = true := rfl
@[simp] theorem rf_sorted {a : E} : (E.seq .sorted a).rf = true := rfl
@[simp] theorem rf_bin {o : Bop} {a b : E} : (E.bin o a b).rf = true := rfl
@[simp] theorem rf_slc {a b c : E} : (E.slc a b c).rf = true := rfl
@[simp] theorem rf_int {i : Int} : (E.int i).rf = true := rfl
@[simp] theorem rf_non : E.non.rf = true := rfl
@[simp] theorem lenP_newL {ds : List D} : lenP (.newL ds) = some (ds.length : Int) := rfl
@[simp] theorem lenP_newS {ds : List D} : lenP (.newS ds) = some (ds.length : Int) := rfl
@[simp] theorem lenP_tup {ds : List D} : lenP (.val (.tup ds)) = some (ds.length : Int) := rfl
@[simp] theorem itemsP_newL {ds : List D} : itemsP (.newL ds) = some ds := rfl
@[simp] theorem itemsP_tup {ds : List D} : itemsP (.val (.tup ds)) = some ds := rfl
@[simp] theorem itemsP_newS {ds : List D} : itemsP (.newS ds) = some ds := rfl
@[simp] theorem idxP_tup {vb : Bool} {ds : List D} {i : Int} : idxP vb (.val (.tup ds)) (.val (.int i)) = L2.atI ds i := rfl
@[simp] theorem idxP_newL {vb : Bool} {ds : List D} {i : Int} : idxP vb (.newL ds) (.val (.int i)) = L2.atI ds i := rfl
@[simp] theorem idxP_newS {vb : Bool} {ds : List D} {i : Int} : idxP vb (.newS ds) (.val (.int i)) = L2.atI ds i := rfl
@[simp] theorem cmpP_val {vb : Bool} {op : Cop} {x : R} {d : D} : cmpP vb op x (.val d) = cmpR op x (.val d) [] := rfl
@[simp] theorem cmpP_newL {vb : Bool} {op : Cop} {x : R} {d : List D} : cmpP vb op x (.newL d) = cmpR op x (.newL d) [] := rfl
@[simp] theorem cmpP_in {t : Bool} {kvs : List (D × D)} {d : D} : cmpP true .isin (.val d) (.newD t kvs) = if keyFor t d = true then some (dfind kvs d).isSome else none := rfl
@[simp] theorem cmpP_notin {t : Bool} {kvs : List (D × D)} {d : D} : cmpP true .notin (.val d) (.newD t kvs) = if keyFor t d = true then some (!(dfind kvs d).isSome) else none := rfl
variable {W : R → Hpp → Prop}
@[simp] theorem b_ll {xs ys : List D} : (binR .add (.newL xs) (.newL ys) []).wp W = (xs.length + ys.length ≤ LIM ∧ W (.newL (xs ++ ys)) []) := wp_guard
@[simp] theorem b_tt {xs ys : List D} : (binR .add (.val (.tup xs)) (.val (.tup ys)) []).wp W = (xs.length + ys.length ≤ LIM ∧ W (.val (.tup (xs ++ ys))) []) := wp_guard
@[simp] theorem b_tm {xs : List D} {k : Int} : (binR .mul (.val (.tup xs)) (.val (.int k)) []).wp W = ((2 ≤ k ∧ k ≤ 1000 ∧ xs.length ≤ 1000 ∧ xs ≠ []) ∧ W (.val (.tup (repL xs k))) []) := wp_guard
@[simp] theorem b_lm {xs : List D} {k : Int} : (binR .mul (.newL xs) (.val (.int k)) []).wp W = ((0 ≤ k ∧ k ≤ 1000 ∧ xs.length ≤ 1000) ∧ W (.newL (repL xs k)) []) := by
  show (if 0 ≤ k ∧ k ≤ 1000 ∧ xs.length ≤ 1000 then (Res.ok (R.newL (repL xs k)) [] : Res R) else .bad).wp W = _
  exact wp_guard
@[simp] theorem s_tupL {ds : List D} : (seqR .tuple (.newL ds) []).wp W = W (.val (.tup ds)) [] := rfl
@[simp] theorem s_tupT {ds : List D} : (seqR .tuple (.val (.tup ds)) []).wp W = W (.val (.tup ds)) [] := rfl
@[simp] theorem s_listL {ds : List D} : (seqR .list (.newL ds) []).wp W = W (.newL ds) [] := rfl
@[simp] theorem s_listT {ds : List D} : (seqR .list (.val (.tup ds)) []).wp W = W (.newL ds) [] := rfl
@[simp] theorem s_listD {t : Bool} {kvs : List (D × D)} : (seqR .list (.newD t kvs) []).wp W = W (.newL (kvs.map (·.1))) [] := rfl
@[simp] theorem s_sortL {ds : List D} : (seqR .sorted (.newL ds) []).wp W = (sortOk ds = true ∧ W (.newL (ds.mergeSort leD)) []) := wp_guard
@[simp] theorem s_sortT {ds : List D} : (seqR .sorted (.val (.tup ds)) []).wp W = (sortOk ds = true ∧ W (.newL (ds.mergeSort leD)) []) := wp_guard
@[simp] theorem s_sortD {t : Bool} {kvs : List (D × D)} : (seqR .sorted (.newD t kvs) []).wp W = (sortOk (kvs.map (·.1)) = true ∧ W (.newL ((kvs.map (·.1)).mergeSort leD)) []) := wp_guard
theorem s_sum {ds : List D} : (seqR .sum (.newL ds) []).wp W = match intsOf ds with
  | some is => W (.val (.int is.sum)) []
  | none => False := by
  show (match intsOf ds with
    | some is => okV (.int is.sum) []
    | none => .bad).wp W = _
  cases intsOf ds <;> rfl
theorem s_all {ds : List D} : (seqR .all (.newL ds) []).wp W = match blsOf ds with
  | some bs => W (.val (.bl (bs.all id))) []
  | none => False := by
  show (match blsOf ds with
    | some is => okV (.bl (is.all id)) []
    | none => .bad).wp W = _
  cases blsOf ds <;> rfl
theorem s_any {ds : List D} : (seqR .any (.newL ds) []).wp W = match blsOf ds with
  | some bs => W (.val (.bl (bs.any id))) []
  | none => False := by
  show (match blsOf ds with
    | some is => okV (.bl (is.any id)) []
    | none => .bad).wp W = _
  cases blsOf ds <;> rfl
theorem bls_map {α : Type} (f : α → Bool) : ∀ l : List α, blsOf (l.map fun a => .bl (f a)) = some (l.map f)
  | [] => rfl
  | a :: l => by simp [blsOf, bls_map f l]
theorem ints_map {α : Type} (f : α → Int) : ∀ l : List α, intsOf (l.map fun a => .int (f a)) = some (l.map f)
  | [] => rfl
  | a :: l => by simp [intsOf, ints_map f l]
@[simp] theorem c_tup {ds : List D} {l h : Option Int} : (cutR (.val (.tup ds)) l h []).wp W = W (.val (.tup (cutD ds l h))) [] := rfl
@[simp] theorem c_new {ds : List D} {l h : Option Int} : (cutR (.newL ds) l h []).wp W = W (.newL (cutD ds l h)) [] := rfl
@[simp] theorem isi_int {i : Int} {t : Ty} : isiR (.val (.int i)) t [] = some (t == .int) := rfl
@[simp] theorem isi_bl {i : Bool} {t : Ty} : isiR (.val (.bl i)) t [] = some (t == .bool || t == .int) := rfl
@[simp] theorem isi_tup {i : List D} {t : Ty} : isiR (.val (.tup i)) t [] = some (t == .tuple) := rfl
@[simp] theorem isi_newL {i : List D} {t : Ty} : isiR (.newL i) t [] = some (t == .list) := rfl
@[simp] theorem isi_non {t : Ty} : isiR (.val .non) t [] = some false := rfl
@[simp] theorem isi_str {s : Str} {t : Ty} : isiR (.val (.str s)) t [] = some (t == .str) := rfl
@[simp] theorem is_non {d : D} : cmpR .is (.val d) (.val .non) [] = some (decide (d = .non)) := rfl
@[simp] theorem isn_non {d : D} : cmpR .isn (.val d) (.val .non) [] = some (!decide (d = .non)) := rfl
@[simp] theorem is_nonL {d : List D} : cmpR .is (.newL d) (.val .non) [] = some false := rfl
@[simp] theorem isn_nonL {d : List D} : cmpR .isn (.newL d) (.val .non) [] = some true := rfl
@[simp] theorem is_bl {d : D} {b : Bool} : cmpR .is (.val d) (.val (.bl b)) [] = some (decide (d = .bl b)) := rfl
mutual
def D.nb : D → Bool
  | .bl _ => false
  | .tup xs => D.nbL xs
  | .ref _ => false | .frl _ => false
  | .non => true | .int _ => true | .str _ => true
def D.nbL : List D → Bool
  | [] => true
  | x :: xs => D.nb x && D.nbL xs
end
mutual
theorem eqv_nb : ∀ (a b : D), a.nb = true → b.nb = true → D.eqv a b = decide (a = b)
  | .non, b, _, h => by cases b <;> simp_all [D.eqv, D.nb]
  | .int i, b, _, h => by
    cases b <;> simp_all [D.eqv, D.nb]
    rw [Bool.eq_iff_iff]; simp
  | .str i, b, _, h => by
    cases b <;> simp_all [D.eqv, D.nb]
    rw [Bool.eq_iff_iff]; simp
  | .tup xs, b, ha, h => by
    cases b with
    | tup ys =>
      rw [D.nb] at ha h
      rw [D.eqv, eqvL_nb xs ys ha h]
      simp
    | _ => simp_all [D.eqv, D.nb]
  | .bl _, b, h, _ => by simp [D.nb] at h
  | .ref _, b, h, _ => by simp [D.nb] at h
  | .frl _, b, h, _ => by simp [D.nb] at h
theorem eqvL_nb : ∀ (a b : List D), D.nbL a = true → D.nbL b = true → D.eqvL a b = decide (a = b)
  | [], b, _, h => by cases b <;> simp [D.eqvL]
  | x :: xs, b, ha, h => by
    cases b with
    | nil => simp [D.eqvL]
    | cons y ys =>
      rw [D.nbL, Bool.and_eq_true] at ha h
      rw [D.eqvL, eqv_nb x y ha.1 h.1, eqvL_nb xs ys ha.2 h.2, Bool.eq_iff_iff]
      simp
end
@[simp] theorem nb_int {i : Int} : (D.int i).nb = true := rfl
@[simp] theorem nb_non : D.non.nb = true := rfl
@[simp] theorem nb_str {b : Str} : (D.str b).nb = true := rfl
@[simp] theorem nb_tup {ds : List D} : (D.tup ds).nb = D.nbL ds := by rw [D.nb]
@[simp] theorem nbL_nil : D.nbL [] = true := rfl
@[simp] theorem nbL_cons {d : D} {ds : List D} : D.nbL (d :: ds) = (d.nb && D.nbL ds) := by rw [D.nbL]
theorem nbL_iff {ds : List D} : D.nbL ds = true ↔ ∀ d ∈ ds, d.nb = true := by
  induction ds with
  | nil => simp
  | cons d ds ih => simp [ih]
theorem nbL_map {α : Type} {f : α → D} {l : List α} (h : ∀ a ∈ l, (f a).nb = true) : D.nbL (l.map f) = true := by
  rw [nbL_iff]
  intro d hd
  obtain ⟨a, ha, rfl⟩ := List.mem_map.mp hd
  exact h a ha
/-- data of depth 60 at most without truth values -/
def pl0 (d : D) : Bool := D.dok 60 d && d.nb
theorem in_new {d : D} {ds : List D} (h1 : pl0 d = true) (h2 : ∀ x ∈ ds, pl0 x = true) : inR (.val d) (.newL ds) [] = some (decide (d ∈ ds)) := by
  unfold pl0 at h1 h2
  simp only [Bool.and_eq_true] at h1 h2
  have h3 : ds.all (D.dok 60) = true := List.all_eq_true.mpr fun x hx => (h2 x hx).1
  simp only [inR, h1.1, h3, Bool.and_self, if_true]
  congr 1
  rw [Bool.eq_iff_iff, List.any_eq_true]
  constructor
  · rintro ⟨x, hx, e⟩
    rw [eqv_nb x d (h2 x hx).2 h1.2] at e
    rw [← of_decide_eq_true e]
    exact decide_eq_true hx
  · intro h
    exact ⟨d, of_decide_eq_true h, by rw [eqv_nb d d h1.2 h1.2]; simp⟩
theorem in_tup {d : D} {ds : List D} (h1 : pl0 d = true) (h2 : ∀ x ∈ ds, pl0 x = true) : inR (.val d) (.val (.tup ds)) [] = some (decide (d ∈ ds)) := by
  rw [← in_new h1 h2]
  simp only [inR]
theorem isin_new {d : D} {ds : List D} (h1 : pl0 d = true) (h2 : ∀ x ∈ ds, pl0 x = true) : cmpR .isin (.val d) (.newL ds) [] = some (decide (d ∈ ds)) := in_new h1 h2
theorem notin_new {d : D} {ds : List D} (h1 : pl0 d = true) (h2 : ∀ x ∈ ds, pl0 x = true) : cmpR .notin (.val d) (.newL ds) [] = some (!decide (d ∈ ds)) := by
  show (inR _ _ _).map _ = _
  rw [in_new h1 h2]
  rfl
theorem isin_tup {d : D} {ds : List D} (h1 : pl0 d = true) (h2 : ∀ x ∈ ds, pl0 x = true) : cmpR .isin (.val d) (.val (.tup ds)) [] = some (decide (d ∈ ds)) := in_tup h1 h2
theorem notin_tup {d : D} {ds : List D} (h1 : pl0 d = true) (h2 : ∀ x ∈ ds, pl0 x = true) : cmpR .notin (.val d) (.val (.tup ds)) [] = some (!decide (d ∈ ds)) := by
  show (inR _ _ _).map _ = _
  rw [in_tup h1 h2]
  rfl
@[simp] theorem pl0_int {i : Int} : pl0 (.int i) = true := rfl
@[simp] theorem pl0_non : pl0 .non = true := rfl
@[simp] theorem in_intsP {i : Int} {l : List Int} : cmpR .isin (.val (.int i)) (.newL (l.map .int)) [] = some (decide (i ∈ l)) := by
  rw [isin_new rfl (by simp)]
  simp
@[simp] theorem notin_intsP {i : Int} {l : List Int} : cmpR .notin (.val (.int i)) (.newL (l.map .int)) [] = some (!decide (i ∈ l)) := by
  rw [notin_new rfl (by simp)]
  simp
@[simp] theorem in_intsT {i : Int} {l : List Int} : cmpR .isin (.val (.int i)) (.val (.tup (l.map .int))) [] = some (decide (i ∈ l)) := by
  rw [isin_tup rfl (by simp)]
  simp
@[simp] theorem notin_intsT {i : Int} {l : List Int} : cmpR .notin (.val (.int i)) (.val (.tup (l.map .int))) [] = some (!decide (i ∈ l)) := by
  rw [notin_tup rfl (by simp)]
  simp
/-- equality of lists of such data -/
theorem eqP_LL {xs ys : List D} (h1 : ∀ x ∈ xs, pl0 x = true) (h2 : ∀ x ∈ ys, pl0 x = true) : eqR (.newL xs) (.newL ys) [] = some (decide (xs = ys)) := by
  unfold pl0 at h1 h2
  simp only [Bool.and_eq_true] at h1 h2
  have h3 : xs.all (D.dok 60) = true := List.all_eq_true.mpr fun x hx => (h1 x hx).1
  have h4 : ys.all (D.dok 60) = true := List.all_eq_true.mpr fun x hx => (h2 x hx).1
  simp only [eqR, viewOf, h3, h4, Bool.and_self, if_true]
  rw [eqvL_nb xs ys (nbL_iff.mpr fun d hd => (h1 d hd).2) (nbL_iff.mpr fun d hd => (h2 d hd).2)]
theorem eqP_vv {a b : D} (h1 : pl0 a = true) (h2 : pl0 b = true) : eqR (.val a) (.val b) [] = some (decide (a = b)) := by
  unfold pl0 at h1 h2
  simp only [Bool.and_eq_true] at h1 h2
  have f1 := dok_fl _ _ h1.1
  have f2 := dok_fl _ _ h2.1
  have e := eqv_nb a b h1.2 h2.2
  unfold eqR
  split
  · rename_i e1 e2; cases e1; cases e2; simp
  · rename_i e1 e2; cases e1; simp [D.nb] at h1
  · rename_i e1 e2; cases e1; cases e2; simp
  · rw [view_v f1, view_v f2]
    simp only [h1.1, h2.1, Bool.and_self, if_true, e]
end
section
variable {C : CallP} {Γ : Str → Option D} {ρ : PEnv} {nx bk ct : PEnv → Prop} {rt : R → Prop} {X : Str → D → PEnv → Prop}
@[simp] theorem ps_set {i : Nat} {e : E} : ps C Γ (.set i e) ρ nx bk ct rt X = pe C Γ e ρ (fun r => nx (ρ.set i (some (.fz, r)))) fun c d => X c d ρ := by rw [ps] <;> rfl
@[simp] theorem ps_setM {i : Nat} {e : E} : ps C Γ (.setM i e) ρ nx bk ct rt X = pe C Γ e ρ (fun r => (E.rf e && r.flat) = true ∧ nx (ρ.set i (some (.ow, r)))) fun c d => X c d ρ := by rw [ps] <;> rfl
@[simp] theorem ps_setT {js : List Nat} {e : E} : ps C Γ (.setT js e) ρ nx bk ct rt X = pe C Γ e ρ (fun r => match r with
    | .val (.tup ds) => (match psets ρ js ds with
      | some ρ1 => nx ρ1
      | none => False)
    | _ => False) fun c d => X c d ρ := by rw [ps] <;> rfl
@[simp] theorem ps_setD {ts : List Bool} {js : List Nat} {es : Es} : ps C Γ (.setD ts js es) ρ nx bk ct rt X = pdis C Γ ts es ρ (fun rs => match psetV ρ ts js rs with
      | some ρ1 => nx ρ1
      | none => False) fun c d => X c d ρ := by rw [ps] <;> rfl
@[simp] theorem pdis_nil {Q : List R → Prop} {X : XP} : pdis C Γ [] .nil ρ Q X = Q [] := by rw [pdis] <;> rfl
@[simp] theorem pdis_cons {t : Bool} {ts : List Bool} {e : E} {r : Es} {Q : List R → Prop} {X : XP} : pdis C Γ (t :: ts) (.cons e r) ρ Q X = pe C Γ e ρ (fun x => (if t = true then E.rf e && x.flat else true) = true ∧ pdis C Γ ts r ρ (fun rs => Q (x :: rs)) X) X := by rw [pdis] <;> rfl
@[simp] theorem ps_putI {m : Nat} {i e : E} : ps C Γ (.putI m i e) ρ nx bk ct rt X = match ρ[m]? with
    | some (some (.ow, .newD t kvs)) => pe C Γ e ρ (fun r => pd r fun v => pe C Γ i ρ (fun y => match y with
      | .val k => ((v.fl = true ∧ k.fl = true) ∧ keyFor t k = true ∧ kvs.length < LIM) ∧ nx (ρ.set m (some (.ow, .newD t (dput kvs k v))))
      | _ => False) fun c d => X c d ρ) fun c d => X c d ρ
    | some (some (.ow, .newL ds)) => pe C Γ e ρ (fun r => pd r fun v => pe C Γ i ρ (fun y => match y with
      | .val (.int j) => v.fl = true ∧ (match L2.ixN ds.length j with
        | some n => nx (ρ.set m (some (.ow, .newL (ds.set n v))))
        | none => False)
      | _ => False) fun c d => X c d ρ) fun c d => X c d ρ
    | _ => False := by rw [ps] <;> rfl
@[simp] theorem ps_aug {i : Nat} {op : Bop} {e : E} : ps C Γ (.aug i op e) ρ nx bk ct rt X = match ρ[i]? with
    | some (some (.fz, .val (.int a))) => pe C Γ e ρ (fun y => match y with
      | .val (.int b) => (binI op a b []).wp fun z _ => nx (ρ.set i (some (.fz, z)))
      | _ => False) fun c d => X c d ρ
    | _ => False := by rw [ps] <;> rfl
@[simp] theorem ps_app {m : Nat} {e : E} : ps C Γ (.app m e) ρ nx bk ct rt X = match ρ[m]? with
    | some (some (.ow, .newL ds)) => pe C Γ e ρ (fun x => match x with
      | .val d => (d.fl = true ∧ ds.length < LIM) ∧ nx (ρ.set m (some (.ow, .newL (ds ++ [d]))))
      | _ => False) fun c d => X c d ρ
    | _ => False := by rw [ps] <;> rfl
@[simp] theorem ps_ext {m : Nat} {e : E} : ps C Γ (.ext m e) ρ nx bk ct rt X = match ρ[m]? with
    | some (some (.ow, .newL ds)) => plook ρ e (fun Q => pe C Γ e ρ Q fun c d => X c d ρ) fun x => match x with
      | .newL xs => (D.flL xs = true ∧ ds.length + xs.length ≤ LIM) ∧ nx (ρ.set m (some (.ow, .newL (ds ++ xs))))
      | _ => False
    | _ => False := by rw [ps] <;> rfl
@[simp] theorem ps_rem {m : Nat} {e : E} : ps C Γ (.rem m e) ρ nx bk ct rt X = match ρ[m]? with
    | some (some (.ow, .newL ds)) => pe C Γ e ρ (fun x => match x with
      | .val d => (D.dok 60 d && ds.all (D.dok 60)) = true ∧ (match ds.findIdx? (fun z => D.eqv z d) with
        | some j => nx (ρ.set m (some (.ow, .newL (ds.eraseIdx j))))
        | none => False)
      | _ => False) fun c d => X c d ρ
    | _ => False := by rw [ps] <;> rfl
@[simp] theorem ps_popS {i m : Nat} {a : E} : ps C Γ (.popS i m a) ρ nx bk ct rt X = match ρ[m]? with
    | some (some (.ow, .newL ds)) => pe C Γ a ρ (fun x => match x with
      | .val (.int k) => (match L2.ixN ds.length k with
        | some j => (match ds[j]? with
          | some d => nx ((ρ.set m (some (.ow, .newL (ds.eraseIdx j)))).set i (some (.fz, .val d)))
          | none => False)
        | none => False)
      | _ => False) fun c d => X c d ρ
    | _ => False := by rw [ps] <;> rfl
@[simp] theorem ps_popL {i m : Nat} : ps C Γ (.popL i m) ρ nx bk ct rt X = match ρ[m]? with
    | some (some (.ow, .newL ds)) => (match ds.getLast? with
      | some d => nx ((ρ.set m (some (.ow, .newL ds.dropLast))).set i (some (.fz, .val d)))
      | none => False)
    | _ => False := by rw [ps] <;> rfl
@[simp] theorem ps_popA {f m : Nat} {a : E} : ps C Γ (.popA f m a) ρ nx bk ct rt X = match ρ[f]?, ρ[m]? with
    | some (some (.ow, .newL fs)), some (some (.ow, .newL ds)) => pe C Γ a ρ (fun x => match x with
      | .val (.int k) => (f ≠ m ∧ fs.length < LIM) ∧ (match L2.ixN ds.length k with
        | some j => (match ds[j]? with
          | some d => nx ((ρ.set m (some (.ow, .newL (ds.eraseIdx j)))).set f (some (.ow, .newL (fs ++ [d]))))
          | none => False)
        | none => False)
      | _ => False) fun c d => X c d ρ
    | _, _ => False := by rw [ps] <;> rfl
@[simp] theorem ps_expr {e : E} : ps C Γ (.expr e) ρ nx bk ct rt X = pe C Γ e ρ (fun _ => nx ρ) fun c d => X c d ρ := by rw [ps] <;> rfl
@[simp] theorem ps_ret {e : E} : ps C Γ (.ret e) ρ nx bk ct rt X = pe C Γ e (frzA ρ) rt fun c d => X c d (frzA ρ) := by rw [ps] <;> rfl
@[simp] theorem ps_retN : ps C Γ .retN ρ nx bk ct rt X = rt (.val .non) := by rw [ps] <;> rfl
@[simp] theorem ps_ite {c : E} {a b : PSs} : ps C Γ (.ite c a b) ρ nx bk ct rt X = pe C Γ c ρ (fun x => Bif x (pss C Γ a ρ nx bk ct rt X) (pss C Γ b ρ nx bk ct rt X)) fun c d => X c d ρ := by rw [ps] <;> rfl
/-- a loop's turn -/
def pbody (C : CallP) (Γ : Str → Option D) (tg : Tg) (b : PSs) (rt : R → Prop) (X : Str → D → PEnv → Prop) : D → PEnv → (PEnv → Prop) → (PEnv → Prop) → Prop := fun d ρ nx bk => pbind tg (toR d) ρ fun ρ1 => pss C Γ b ρ1 nx bk nx rt X
def wcond (C : CallP) (Γ : Str → Option D) (c : E) (X : Str → D → PEnv → Prop) : PEnv → (R → Prop) → Prop := fun ρ Q => pe C Γ c ρ Q fun c d => X c d ρ
def wbody (C : CallP) (Γ : Str → Option D) (b : PSs) (rt : R → Prop) (X : Str → D → PEnv → Prop) : PEnv → (PEnv → Prop) → (PEnv → Prop) → Prop := fun ρ nx bk => pss C Γ b ρ nx bk nx rt X
@[simp] theorem ps_for {k : List Nat} {tg : Tg} {i : I} {b : PSs} : ps C Γ (.for_ k tg i b) ρ nx bk ct rt X = pi C Γ false i ρ (fun ds => ploop (pbody C Γ tg b rt X) k nx ds (kill k ρ)) fun c d => X c d ρ := by rw [ps]; rfl
@[simp] theorem ps_whl {k : List Nat} {c : E} {b : PSs} : ps C Γ (.whl k c b) ρ nx bk ct rt X = pwhl (wcond C Γ c X) (wbody C Γ b rt X) k nx WF (kill k ρ) := by rw [ps]; rfl
@[simp] theorem ps_brk : ps C Γ .brk ρ nx bk ct rt X = bk ρ := by rw [ps] <;> rfl
@[simp] theorem ps_cnt : ps C Γ .cnt ρ nx bk ct rt X = ct ρ := by rw [ps] <;> rfl
@[simp] theorem ps_pass : ps C Γ .pass ρ nx bk ct rt X = nx ρ := by rw [ps] <;> rfl
@[simp] theorem pss_nil : pss C Γ .nil ρ nx bk ct rt X = nx ρ := by rw [pss] <;> rfl
theorem pss_cons' {js : List Nat} {s : PS} {r : PSs} : pss C Γ (.cons js s r) ρ nx bk ct rt X = ps C Γ s (frz js ρ) (fun ρ1 => pss C Γ r ρ1 nx bk ct rt X) bk ct rt X := by rw [pss] <;> rfl
@[simp] theorem pss_cons {o : Option (Tag × R)} {js : List Nat} {s : PS} {r : PSs} : pss C Γ (.cons js s r) (o :: ρ) nx bk ct rt X = ps C Γ s (frz js (o :: ρ)) (fun ρ1 => pss C Γ r ρ1 nx bk ct rt X) bk ct rt X := pss_cons'
@[simp] theorem frz_nil : frz [] ρ = ρ := rfl
@[simp] theorem frz_cons {j : Nat} {js : List Nat} : frz (j :: js) ρ = frz js (frz1 ρ j) := rfl
@[simp] theorem kill_nil : kill [] ρ = ρ := rfl
@[simp] theorem kill_cons {j : Nat} {js : List Nat} : kill (j :: js) ρ = kill js (ρ.set j none) := rfl
@[simp] theorem frzA_nil : frzA [] = [] := rfl
@[simp] theorem frzA_none {r : PEnv} : frzA (none :: r) = none :: frzA r := rfl
@[simp] theorem frzA_some {t : Tag} {x : R} {r : PEnv} : frzA (some (t, x) :: r) = some (.fz, x) :: frzA r := rfl
@[simp] theorem pbind_one {i : Nat} {r : R} {Q : PEnv → Prop} : pbind (.one i) r ρ Q = Q (ρ.set i (some (.fz, r))) := rfl
@[simp] theorem pbind_many {is : List Nat} {ds : List D} {Q : PEnv → Prop} : pbind (.many is) (.val (.tup ds)) ρ Q = match psets ρ is ds with
  | some ρ1 => Q ρ1
  | none => False := rfl
@[simp] theorem psets_nil : psets ρ [] [] = some ρ := rfl
@[simp] theorem psets_cons {i : Nat} {is : List Nat} {d : D} {ds : List D} : psets ρ (i :: is) (d :: ds) = psets (ρ.set i (some (.fz, toR d))) is ds := rfl
@[simp] theorem psetV_nil : psetV ρ [] [] [] = some ρ := rfl
@[simp] theorem psetV_cons {t : Bool} {ts : List Bool} {i : Nat} {is : List Nat} {r : R} {rs : List R} : psetV ρ (t :: ts) (i :: is) (r :: rs) = psetV (ρ.set i (some (if t = true then .ow else .fz, r))) ts is rs := rfl
/-! ### calls -/
def tabP (l : List (Str × PFn)) : PTab := fun x => (l.find? fun p => decide (p.1 = x)).map (·.2)
theorem tabP_nil {T : Tab} : ∀ f fd, tabP [] f = some fd → T f = some fd.strip := fun f fd h => by simp [tabP] at h
theorem tabP_cons {T : Tab} {s : Str} {p : PFn} {l : List (Str × PFn)} (h : T s = some p.strip) (g : ∀ f fd, tabP l f = some fd → T f = some fd.strip) : ∀ f fd, tabP ((s, p) :: l) f = some fd → T f = some fd.strip := fun f fd e => by
  unfold tabP at e
  rw [List.find?_cons] at e
  by_cases hs : s = f
  · subst hs
    simp only [decide_true, Option.map_some] at e
    cases e
    exact h
  · simp only [decide_eq_false hs] at e
    exact g f fd e
variable {TP : PTab} {n : Nat} {Q : R → Prop} {Y : XP}
theorem pcall {f : Str} {fd : PFn} {args : List R} (hT : TP f = some fd) (h1 : f ≠ "_law_take") (h2 : f ≠ "_law_box") (h3 : args.length = fd.np)
    (h : pss (callP TP Γ n) Γ fd.body (args.map (fun r => some (.fz, r)) ++ List.replicate (fd.ns - fd.np) none) (fun _ => Q (.val .non)) (fun _ => False) (fun _ => False) Q (fun c d _ => Y c d)) : callP TP Γ (n + 1) f args Q Y := by
  simp only [callP]
  rw [if_neg h1, if_neg h2, hT]
  exact ⟨h3, h⟩
theorem pcall_eq {f : Str} {fd : PFn} {args : List R} (hT : TP f = some fd) (h1 : f ≠ "_law_take") (h2 : f ≠ "_law_box") (h3 : args.length = fd.np) : callP TP Γ (n + 1) f args Q Y = pss (callP TP Γ n) Γ fd.body (args.map (fun r => some (.fz, r)) ++ List.replicate (fd.ns - fd.np) none) (fun _ => Q (.val .non)) (fun _ => False) (fun _ => False) Q (fun c d _ => Y c d) := by
  simp only [callP]
  rw [if_neg h1, if_neg h2, hT]
  simp only [h3, true_and]
@[simp] theorem call_take {m : Int} : callP TP Γ (n + 1) "_law_take" [.val (.ref 0), .val (.int m)] Q Y = ((0 < m ∧ m < 1073741824) ∧ ∀ i : Int, 0 ≤ i → i < m → Q (.val (.int i))) := by
  simp only [callP, ptake, if_true]
theorem call_box {k : Int} {ns : List Int} (h : ns.length ≤ 63) (h0 : 0 ≤ k) (h1 : k < 1000) (q : Q (.val (.ref 0))) : callP TP Γ (n + 1) "_law_box" [.newS (ns.map .int), .val (.int k)] Q Y := by
  simp only [callP, pbox]
  rw [if_neg (by decide), if_pos trivial]
  exact ⟨⟨ns, rfl, h⟩, ⟨h0, h1⟩, q⟩
/-! ### comprehensions and loops -/
theorem comp_inv {f : D → (Option D → Prop) → Prop} {ds : List D} {Q : List D → Prop} (I : Nat → List D → Prop) (h0 : I 0 []) (hs : ∀ i d acc (k : Option D → Prop), ds[i]? = some d → I i acc → (∀ x, I (i + 1) (acc ++ [x]) → k (some x)) → (I (i + 1) acc → k none) → f d k) (he : ∀ acc, I ds.length acc → Q acc) : pcomp f ds [] Q := by
  have go : ∀ (us : List D) (i : Nat) (acc : List D), ds.drop i = us → i ≤ ds.length → I i acc → pcomp f us acc Q := by
    intro us
    induction us with
    | nil =>
      intro i acc e hl h
      have : i = ds.length := by
        have := List.drop_eq_nil_iff.mp e
        omega
      subst this
      exact he acc h
    | cons u us ih =>
      intro i acc e hl h
      have e2 : ds[i]? = some u := by
        have := congrArg (·[0]?) e
        simpa using this
      have e3 : ds.drop (i + 1) = us := by
        have := congrArg List.tail e
        simpa [List.tail_drop] using this
      have hlt := (List.getElem?_eq_some_iff.mp e2).1
      exact hs i u acc _ e2 h (fun x hx => ih (i + 1) _ e3 hlt hx) fun hx => ih (i + 1) _ e3 hlt hx
  exact go ds 0 [] rfl (Nat.zero_le _) h0
/-- a comprehension that is determined -/
theorem comp_det {α β : Type} {f : D → (Option D → Prop) → Prop} {l : List α} {e : α → D} {Q : List D → Prop} (o : α → Option β) (g : β → D) (h : ∀ a ∈ l, ∀ k : Option D → Prop, k ((o a).map g) → f (e a) k) (q : Q ((l.filterMap o).map g)) : pcomp f (l.map e) [] Q := by
  have go : ∀ (l : List α) (acc : List D), (∀ a ∈ l, ∀ k : Option D → Prop, k ((o a).map g) → f (e a) k) → Q (acc ++ (l.filterMap o).map g) → pcomp f (l.map e) acc Q := by
    intro l
    induction l with
    | nil => intro acc _ q; show Q acc; simpa using q
    | cons a l ih =>
      intro acc h q
      refine h a (List.mem_cons_self) _ ?_
      cases ho : o a with
      | none => exact ih acc (fun b hb => h b (List.mem_cons_of_mem _ hb)) (by simpa [List.filterMap_cons, ho] using q)
      | some b => exact ih _ (fun b hb => h b (List.mem_cons_of_mem _ hb)) (by simpa [List.filterMap_cons, ho] using q)
  exact go l [] h (by simpa using q)
theorem comp_map {α : Type} {f : D → (Option D → Prop) → Prop} {l : List α} {e : α → D} {Q : List D → Prop} (g : α → D) (h : ∀ a ∈ l, ∀ k : Option D → Prop, k (some (g a)) → f (e a) k) (q : Q (l.map g)) : pcomp f (l.map e) [] Q :=
  comp_det (fun a => some a) g h (by simpa using q)
theorem filterMap_if {α : Type} {p : α → Bool} : ∀ l : List α, l.filterMap (fun a => if p a = true then some a else none) = l.filter p
  | [] => rfl
  | a :: l => by
    rw [List.filterMap_cons, List.filter_cons, filterMap_if l]
    cases p a <;> simp
theorem comp_filter {α : Type} {f : D → (Option D → Prop) → Prop} {l : List α} {e : α → D} {Q : List D → Prop} (p : α → Prop) [DecidablePred p] (h : ∀ a ∈ l, ∀ k : Option D → Prop, (p a → k (some (e a))) → (¬ p a → k none) → f (e a) k) (q : Q ((l.filter fun a => decide (p a)).map e)) : pcomp f (l.map e) [] Q :=
  comp_det (fun a => if decide (p a) = true then some a else none) e (fun a ha k q => h a ha k (fun hp => by rw [if_pos (decide_eq_true hp)] at q; exact q) (fun hp => by rw [if_neg (by simpa using hp)] at q; exact q)) (by
    rw [filterMap_if]
    exact q)
/-- .. and changes each -/
theorem comp_fmap {α : Type} {f : D → (Option D → Prop) → Prop} {l : List α} {e g : α → D} {Q : List D → Prop} (p : α → Prop) [DecidablePred p] (h : ∀ a ∈ l, ∀ k : Option D → Prop, (p a → k (some (g a))) → (¬ p a → k none) → f (e a) k) (q : Q ((l.filter fun a => decide (p a)).map g)) : pcomp f (l.map e) [] Q :=
  comp_det (fun a => if decide (p a) = true then some a else none) g (fun a ha k q => h a ha k (fun hp => by rw [if_pos (decide_eq_true hp)] at q; exact q) (fun hp => by rw [if_neg (by simpa using hp)] at q; exact q)) (by
    rw [filterMap_if]
    exact q)
/-- a comprehension of draws: each item is of P -/
theorem comp_all {α : Type} {f : D → (Option D → Prop) → Prop} {l : List α} {e : α → D} {Q : List D → Prop} {β : Type} (g : β → D) (P : β → Prop) (h : ∀ a ∈ l, ∀ k : Option D → Prop, (∀ b, P b → k (some (g b))) → f (e a) k) (q : ∀ bs : List β, bs.length = l.length → (∀ b ∈ bs, P b) → Q (bs.map g)) : pcomp f (l.map e) [] Q := by
  refine comp_inv (fun i acc => ∃ bs : List β, acc = bs.map g ∧ bs.length = i ∧ ∀ b ∈ bs, P b) ⟨[], rfl, rfl, by simp⟩ (fun i d acc k e1 h1 h2 h3 => ?_) fun acc h1 => ?_
  · rw [List.getElem?_map] at e1
    obtain ⟨a, ea, rfl⟩ := Option.map_eq_some_iff.mp e1
    obtain ⟨bs, rfl, hl, hb⟩ := h1
    exact h a (List.mem_of_getElem? ea) k fun b pb => h2 _ ⟨bs ++ [b], by simp, by simp [hl], fun c hc => by
      rcases List.mem_append.mp hc with hc | hc
      · exact hb c hc
      · rw [List.mem_singleton] at hc; subst hc; exact pb⟩
  · obtain ⟨bs, rfl, hl, hb⟩ := h1
    exact q bs (by rw [hl]; simp) hb
/-- .. with tests that may draw -/
theorem comp_some {α : Type} {f : D → (Option D → Prop) → Prop} {l : List α} {e : α → D} {Q : List D → Prop} {β : Type} (g : β → D) (P : β → Prop) (h : ∀ a ∈ l, ∀ k : Option D → Prop, (∀ b, P b → k (some (g b))) → k none → f (e a) k) (q : ∀ bs : List β, bs.length ≤ l.length → (∀ b ∈ bs, P b) → Q (bs.map g)) : pcomp f (l.map e) [] Q := by
  refine comp_inv (fun i acc => ∃ bs : List β, acc = bs.map g ∧ bs.length ≤ i ∧ ∀ b ∈ bs, P b) ⟨[], rfl, Nat.le_refl _, by simp⟩ (fun i d acc k e1 h1 h2 h3 => ?_) fun acc h1 => ?_
  · rw [List.getElem?_map] at e1
    obtain ⟨a, ea, rfl⟩ := Option.map_eq_some_iff.mp e1
    obtain ⟨bs, rfl, hl, hb⟩ := h1
    refine h a (List.mem_of_getElem? ea) k (fun b pb => h2 _ ⟨bs ++ [b], by simp, by simp; omega, fun c hc => by
      rcases List.mem_append.mp hc with hc | hc
      · exact hb c hc
      · rw [List.mem_singleton] at hc; subst hc; exact pb⟩) (h3 ⟨bs, rfl, by omega, hb⟩)
  · obtain ⟨bs, rfl, hl, hb⟩ := h1
    exact q bs (by simpa using hl) hb
theorem for_inv {f : D → PEnv → (PEnv → Prop) → (PEnv → Prop) → Prop} {k : List Nat} {fin : PEnv → Prop} {ds : List D} {ρ : PEnv} (I : Nat → PEnv → Prop) (h0 : I 0 ρ) (hs : ∀ (i : Nat) (d : D) (ρ : PEnv) (nx : PEnv → Prop), ds[i]? = some d → I i ρ → (∀ ρ', I (i + 1) (kill k ρ') → nx ρ') → f d ρ nx fun ρ' => fin (kill k ρ')) (he : ∀ ρ, I ds.length ρ → fin ρ) : ploop f k fin ds ρ := by
  have go : ∀ (us : List D) (i : Nat) (ρ : PEnv), ds.drop i = us → i ≤ ds.length → I i ρ → ploop f k fin us ρ := by
    intro us
    induction us with
    | nil =>
      intro i acc e hl h
      have : i = ds.length := by
        have := List.drop_eq_nil_iff.mp e
        omega
      subst this
      exact he acc h
    | cons u us ih =>
      intro i ρ e hl h
      have e2 : ds[i]? = some u := by
        have := congrArg (·[0]?) e
        simpa using this
      have e3 : ds.drop (i + 1) = us := by
        have := congrArg List.tail e
        simpa [List.tail_drop] using this
      have hlt := (List.getElem?_eq_some_iff.mp e2).1
      exact hs i u ρ _ e2 h fun ρ' hx => ih (i + 1) _ e3 hlt hx
  exact go ds 0 ρ rfl (Nat.zero_le _) h0
/-- .. over items l, the state being of one form: s after the items that were -/
theorem for_st {α σ : Type} {f : D → PEnv → (PEnv → Prop) → (PEnv → Prop) → Prop} {k : List Nat} {fin : PEnv → Prop} {l : List α} {e : α → D} (enc : σ → PEnv) (I : Nat → σ → Prop) {s0 : σ} (h0 : I 0 s0) (hs : ∀ (i : Nat) (a : α) (s : σ) (nx : PEnv → Prop), l[i]? = some a → I i s → (∀ s' ρ', I (i + 1) s' → kill k ρ' = enc s' → nx ρ') → f (e a) (enc s) nx fun ρ' => fin (kill k ρ')) (he : ∀ s, I l.length s → fin (enc s)) : ploop f k fin (l.map e) (enc s0) := by
  refine for_inv (fun i ρ => ∃ s, ρ = enc s ∧ I i s) ⟨s0, rfl, h0⟩ (fun i d ρ nx e1 h1 h2 => ?_) fun ρ h1 => ?_
  · rw [List.getElem?_map] at e1
    obtain ⟨a, ea, rfl⟩ := Option.map_eq_some_iff.mp e1
    obtain ⟨s, rfl, hI⟩ := h1
    exact hs i a s nx ea hI fun s' ρ' hI' ek => h2 ρ' ⟨s', ek, hI'⟩
  · obtain ⟨s, rfl, hI⟩ := h1
    exact he s (by simpa using hI)
/-- .. by a step -/
theorem for_fold {α σ : Type} {f : D → PEnv → (PEnv → Prop) → (PEnv → Prop) → Prop} {k : List Nat} {fin : PEnv → Prop} {l : List α} {e : α → D} (enc : σ → PEnv) (step : σ → α → σ) {s0 : σ} (hs : ∀ a ∈ l, ∀ (s : σ) (nx bk : PEnv → Prop), (∀ ρ', kill k ρ' = enc (step s a) → nx ρ') → f (e a) (enc s) nx bk) (he : fin (enc (l.foldl step s0))) : ploop f k fin (l.map e) (enc s0) := by
  induction l generalizing s0 with
  | nil => exact he
  | cons a l ih => exact hs a List.mem_cons_self s0 _ _ fun ρ' ek => by rw [ek]; exact ih (fun b hb => hs b (List.mem_cons_of_mem _ hb)) he
theorem whl_inv {c : PEnv → (R → Prop) → Prop} {f : PEnv → (PEnv → Prop) → (PEnv → Prop) → Prop} {k : List Nat} {fin : PEnv → Prop} (I : Nat → PEnv → Prop)
    (hs : ∀ (m : Nat) (ρ : PEnv) (nx : PEnv → Prop), I m ρ → (∀ (m' : Nat) (ρ' : PEnv), m' < m → I m' (kill k ρ') → nx ρ') → c ρ fun x => Bif x (f ρ nx fun ρ' => fin (kill k ρ')) (fin ρ)) :
    ∀ (n m : Nat) (ρ : PEnv), m < n → I m ρ → pwhl c f k fin n ρ
  | 0, _, _, h, _ => by omega
  | n + 1, m, ρ, hn, h => hs m ρ _ h fun m' ρ' hm hI => whl_inv I hs n m' _ (by omega) hI
theorem whl_at {c : PEnv → (R → Prop) → Prop} {f : PEnv → (PEnv → Prop) → (PEnv → Prop) → Prop} {k : List Nat} {fin : PEnv → Prop} {ρ : PEnv} (I : Nat → PEnv → Prop) (m : Nat) (hm : m < 1000000) (h0 : I m ρ)
    (hs : ∀ (m : Nat) (ρ : PEnv) (nx : PEnv → Prop), I m ρ → (∀ (m' : Nat) (ρ' : PEnv), m' < m → I m' (kill k ρ') → nx ρ') → c ρ fun x => Bif x (f ρ nx fun ρ' => fin (kill k ρ')) (fin ρ)) : pwhl c f k fin WF ρ := whl_inv I hs WF m ρ hm h0
end
end LK

set_option Elab.async false
set_option linter.all false
set_option autoImplicit false
set_option maxRecDepth 100000
set_option maxHeartbeats 1000000
/-! PkX: the heapless semantics, run: for calls without draws. -/
namespace LK
open PySem
inductive XF where
  | nx (ρ : PEnv) | bk (ρ : PEnv) | ct (ρ : PEnv) | rt (r : R)
def xok {α : Type} : Res α → Option α
  | .ok a _ => some a
  | _ => none
theorem xok_wp {r : Res R} {z : R} (h : xok r = some z) {Q : R → Prop} (q : Q z) : r.wp fun z _ => Q z := by
  cases r with
  | ok a G => cases h; exact q
  | _ => cases h
def xlook (ρ : PEnv) (a : E) (o : Option R) : Option R := match a with
  | .var i => match ρ[i]? with
    | some (some (.fz, r)) => some r
    | some (some (.ow, r)) => some r
    | _ => none
  | _ => o
theorem xlook_p {ρ : PEnv} {a : E} {o : Option R} {z : R} {k : (R → Prop) → Prop} {Q : R → Prop} (h : xlook ρ a o = some z) (hk : o = some z → k Q) (q : Q z) : plook ρ a k Q := by
  cases a with
  | var i =>
    simp only [xlook] at h
    simp only [plook]
    split at h
    · rename_i e; cases h; (try simp only [e]); exact q
    · rename_i e; cases h; (try simp only [e]); exact q
    · cases h
  | _ => exact hk h
def xd : R → Option D
  | .val d => some d
  | .newL ds => some (.frl ds)
  | _ => none
theorem xd_p {x : R} {d : D} {Q : D → Prop} (h : xd x = some d) (q : Q d) : pd x Q := by
  cases x <;> cases h <;> exact q
def xif {α : Type} (x : R) (a b : Option α) : Option α := match x with
  | .val (.bl true) => a
  | .val (.bl false) => b
  | _ => none
theorem xif_p {α : Type} {x : R} {a b : Option α} {z : α} {A B : Prop} (h : xif x a b = some z) (ha : a = some z → A) (hb : b = some z → B) : Bif x A B := by
  cases x with
  | val d => cases d with
    | bl t => cases t with
      | true => exact ha h
      | false => exact hb h
    | _ => cases h
  | _ => cases h
def xbind (tg : Tg) (r : R) (ρ : PEnv) : Option PEnv := match tg with
  | .one i => some (ρ.set i (some (.fz, r)))
  | .many is => match r with
    | .val (.tup ds) => psets ρ is ds
    | _ => none
theorem xbind_p {tg : Tg} {r : R} {ρ ρ1 : PEnv} {Q : PEnv → Prop} (h : xbind tg r ρ = some ρ1) (q : Q ρ1) : pbind tg r ρ Q := by
  cases tg with
  | one i => cases h; exact q
  | many is =>
    cases r with
    | val d => cases d with
      | tup ds =>
        simp only [xbind] at h
        simp only [pbind, h]
        exact q
      | _ => cases h
    | _ => cases h
def xcomp (f : D → Option (Option D)) : List D → List D → Option (List D)
  | [], acc => some acc
  | d :: ds, acc => (f d).bind fun o => match o with
    | some x => xcomp f ds (acc ++ [x])
    | none => xcomp f ds acc
def xdcomp (f : D → Option (Option (D × D))) : List D → List (D × D) → Option (List (D × D))
  | [], acc => some acc
  | d :: ds, acc => (f d).bind fun o => match o with
    | some (k, v) => if keyFor false k = true ∧ acc.length < LIM then xdcomp f ds (dput acc k v) else none
    | none => xdcomp f ds acc
def xpi (o : Option R) : Option (Option Int) := match o with
  | some (.val (.int i)) => some (some i)
  | _ => none
def xpart (e : E) (o : Option R) : Option (Option Int) := match e with
  | .non => some none
  | _ => xpi o
abbrev CallX := Str → List R → Option R
section
variable (C : CallX) (Γ : Str → Option D)
mutual
def xe : E → PEnv → Option R
  | .int i, _ => some (.val (.int i))
  | .bl b, _ => some (.val (.bl b))
  | .non, _ => some (.val .non)
  | .str s, _ => some (.val (.str s))
  | .var i, ρ => match ρ[i]? with
    | some (some (.fz, r)) => some r
    | _ => none
  | .glob x, _ => (Γ x).map .val
  | .tup es, ρ => (xes es ρ).map fun ds => .val (.tup ds)
  | .lst es, ρ => (xes es ρ).map .newL
  | .dnew t, _ => some (.newD t [])
  | .bin op a b, ρ => (xlook ρ a (xe a ρ)).bind fun x => (xlook ρ b (xe b ρ)).bind fun y => xok (binR op x y [])
  | .neg a, ρ => (xe a ρ).bind fun x => match x with
    | .val (.int i) => some (.val (.int (-i)))
    | _ => none
  | .cmp op a b, ρ => (xlook ρ a (xe a ρ)).bind fun x => (xlook ρ b (xe b ρ)).bind fun y => (cmpP b.isVar op x y).map fun t => .val (.bl t)
  | .chain o p a b c, ρ => (xe a ρ).bind fun x => (xe b ρ).bind fun y => match cmpP false o x y with
    | some true => (xe c ρ).bind fun z => (cmpP false p y z).map fun t => .val (.bl t)
    | some false => some (.val (.bl false))
    | none => none
  | .and a b, ρ => (xe a ρ).bind fun x => xif x (xe b ρ) (some (.val (.bl false)))
  | .or a b, ρ => (xe a ρ).bind fun x => xif x (some (.val (.bl true))) (xe b ρ)
  | .not a, ρ => (xe a ρ).bind fun x => xif x (some (.val (.bl false))) (some (.val (.bl true)))
  | .ite c a b, ρ => (xe c ρ).bind fun x => xif x (xe a ρ) (xe b ρ)
  | .idx a i, ρ => (xlook ρ a (xe a ρ)).bind fun x => (xe i ρ).bind fun y => (idxP a.isVar x y).map toR
  | .slc a lo hi, ρ => (xlook ρ a (xe a ρ)).bind fun x => (xpart lo (xe lo ρ)).bind fun l => (xpart hi (xe hi ρ)).bind fun h => xok (cutR x l h [])
  | .call f es ks dd, ρ => (xers es ρ).bind fun rs => (xers ks ρ).bind fun zs => if D.flL dd = true then C f (rs ++ zs ++ dd.map .val) else none
  | .len a, ρ => (xlook ρ a (xe a ρ)).bind fun x => (lenP x).map fun n => .val (.int n)
  | .abs a, ρ => (xe a ρ).bind fun x => match x with
    | .val (.int i) => some (.val (.int (if i < 0 then -i else i)))
    | _ => none
  | .int1 a, ρ => (xe a ρ).bind fun x => match x with
    | .val (.int i) => some (.val (.int i))
    | .val (.bl b) => some (.val (.int (if b then 1 else 0)))
    | _ => none
  | .min2 a b, ρ => (xe a ρ).bind fun x => (xe b ρ).bind fun y => match x, y with
    | .val (.int i), .val (.int j) => some (.val (.int (if j < i then j else i)))
    | _, _ => none
  | .max2 a b, ρ => (xe a ρ).bind fun x => (xe b ρ).bind fun y => match x, y with
    | .val (.int i), .val (.int j) => some (.val (.int (if j > i then j else i)))
    | _, _ => none
  | .isi a t, ρ => (xlook ρ a (xe a ρ)).bind fun x => (isiR x t []).map fun b => .val (.bl b)
  | .seq b a, ρ => (xlook ρ a (xe a ρ)).bind fun x => xok (seqR b x [])
  | .lrng a b, ρ => (xe a ρ).bind fun x => (xe b ρ).bind fun y => match x, y with
    | .val (.int i), .val (.int j) => if (-(LIM : Int) ≤ i ∧ i ≤ LIM) ∧ -(LIM : Int) ≤ j ∧ j ≤ LIM then some (.newL ((List.range (j - i).toNat).map fun (k : Nat) => .int (i + k))) else none
    | _, _ => none
  | .comp e tg i ifs, ρ => (xi true i ρ).bind fun ds => if ds.length ≤ LIM then (xcomp (fun d => (xbind tg (toR d) ρ).bind fun ρ1 => (xifs ifs ρ1).bind fun t => if t = true then (xe e ρ1).bind fun x => (xd x).map some else some none) ds []).map .newL else none
  | .dcomp _ ke e tg i ifs, ρ => (xi true i ρ).bind fun ds => (xdcomp (fun d => (xbind tg (toR d) ρ).bind fun ρ1 => (xifs ifs ρ1).bind fun t => if t = true then (xe ke ρ1).bind fun x => (xd x).bind fun d => (xe e ρ1).bind fun y => (xd y).map fun z => some (d, z) else some none) ds []).map (.newD false)
  | .meth0 _ _, _ => none
  | .meth1 _ _ _, _ => none
def xes : Es → PEnv → Option (List D)
  | .nil, _ => some []
  | .cons e r, ρ => (xe e ρ).bind fun x => (xd x).bind fun d => (xes r ρ).map fun ds => d :: ds
def xers : Es → PEnv → Option (List R)
  | .nil, _ => some []
  | .cons e r, ρ => (xe e ρ).bind fun x => (xers r ρ).map fun ds => x :: ds
def xifs : Es → PEnv → Option Bool
  | .nil, _ => some true
  | .cons e r, ρ => (xe e ρ).bind fun x => xif x (xifs r ρ) (some false)
def xi : Bool → I → PEnv → Option (List D)
  | lk, .ex e, ρ => (if lk = true then xlook ρ e (xe e ρ) else xe e ρ).bind itemsP
  | _, .rng1 a, ρ => (xe a ρ).bind fun x => match x with
    | .val (.int j) => if -(LIM : Int) ≤ j ∧ j ≤ LIM then some ((List.range j.toNat).map fun (k : Nat) => .int k) else none
    | _ => none
  | _, .rng2 a b, ρ => (xe a ρ).bind fun x => (xe b ρ).bind fun y => match x, y with
    | .val (.int i), .val (.int j) => if (-(LIM : Int) ≤ i ∧ i ≤ LIM) ∧ -(LIM : Int) ≤ j ∧ j ≤ LIM then some ((List.range (j - i).toNat).map fun (k : Nat) => .int (i + k)) else none
    | _, _ => none
  | lk, .enum e, ρ => (if lk = true then xlook ρ e (xe e ρ) else xe e ρ).bind fun x => (itemsP x).map fun ds => ds.zipIdx.map fun p => .tup [.int p.2, p.1]
  | lk, .zip a b, ρ => (if lk = true then xlook ρ a (xe a ρ) else xe a ρ).bind fun x => (if lk = true then xlook ρ b (xe b ρ) else xe b ρ).bind fun y => if x.isTup = y.isTup then (itemsP x).bind fun ds => (itemsP y).map fun es => (ds.zip es).map fun p => .tup [p.1, p.2] else none
  | _, .items _, _ => none
end
end
section
variable {C : CallX} {C' : CallP} {Γ : Str → Option D}
theorem xcomp_p {f : D → Option (Option D)} {g : D → (Option D → Prop) → Prop} (hf : ∀ d o k, f d = some o → k o → g d k) {Q : List D → Prop} : ∀ (ds acc : List D) {r : List D}, xcomp f ds acc = some r → Q r → pcomp g ds acc Q
  | [], acc, r, h, q => by cases h; exact q
  | d :: ds, acc, r, h, q => by
    rw [xcomp, Option.bind_eq_some_iff] at h
    obtain ⟨o, h1, h2⟩ := h
    refine hf d o _ h1 ?_
    cases o with
    | some x => exact xcomp_p hf ds _ h2 q
    | none => exact xcomp_p hf ds _ h2 q
theorem xdcomp_p {f : D → Option (Option (D × D))} {g : D → (Option (D × D) → Prop) → Prop} (hf : ∀ d o k, f d = some o → k o → g d k) {Q : List (D × D) → Prop} : ∀ (ds : List D) (acc : List (D × D)) {r : List (D × D)}, xdcomp f ds acc = some r → Q r → pdcomp g ds acc Q
  | [], acc, r, h, q => by cases h; exact q
  | d :: ds, acc, r, h, q => by
    rw [xdcomp, Option.bind_eq_some_iff] at h
    obtain ⟨o, h1, h2⟩ := h
    refine hf d o _ h1 ?_
    cases o with
    | some x =>
      obtain ⟨k, v⟩ := x
      simp only [] at h2 ⊢
      split at h2
      · rename_i hc
        exact ⟨hc, xdcomp_p hf ds _ h2 q⟩
      · cases h2
    | none => exact xdcomp_p hf ds _ h2 q
theorem xpart_p {e : E} {o : Option R} {z : Option Int} {k : (R → Prop) → Prop} {Q : Option Int → Prop} (h : xpart e o = some z) (hk : ∀ x (Q : R → Prop), o = some x → Q x → k Q) (q : Q z) : ppart e k Q := by
  have gen : xpi o = some z → k (fun r => match r with
    | .val (.int i) => Q (some i)
    | _ => False) := fun h => by
    unfold xpi at h
    split at h
    · cases h; exact hk _ _ rfl q
    · cases h
  cases e with
  | non => cases h; exact q
  | _ => exact gen h
mutual
theorem xe_p (hC : ∀ f rs r Q X, C f rs = some r → Q r → C' f rs Q X) : ∀ (e : E) {ρ : PEnv} {r : R} {Q : R → Prop} {X : XP}, xe C Γ e ρ = some r → Q r → pe C' Γ e ρ Q X
  | .int i, ρ, r, Q, X, h, q => by rw [xe] at h; rw [pe]; cases h; exact q
  | .bl i, ρ, r, Q, X, h, q => by rw [xe] at h; rw [pe]; cases h; exact q
  | .non, ρ, r, Q, X, h, q => by rw [xe] at h; rw [pe]; cases h; exact q
  | .str i, ρ, r, Q, X, h, q => by rw [xe] at h; rw [pe]; cases h; exact q
  | .var i, ρ, r, Q, X, h, q => by
    rw [xe] at h
    rw [pe]
    split at h
    · rename_i e; cases h; (try simp only [e]); exact q
    · cases h
  | .glob x, ρ, r, Q, X, h, q => by
    rw [xe, Option.map_eq_some_iff] at h
    obtain ⟨d, h1, rfl⟩ := h
    rw [pe, h1]
    exact q
  | .tup es, ρ, r, Q, X, h, q => by
    rw [xe, Option.map_eq_some_iff] at h
    obtain ⟨d, h1, rfl⟩ := h
    rw [pe]
    exact xes_p hC es h1 q
  | .lst es, ρ, r, Q, X, h, q => by
    rw [xe, Option.map_eq_some_iff] at h
    obtain ⟨d, h1, rfl⟩ := h
    rw [pe]
    exact xes_p hC es h1 q
  | .dnew t, ρ, r, Q, X, h, q => by rw [xe] at h; rw [pe]; cases h; exact q
  | .bin op a b, ρ, r, Q, X, h, q => by
    simp only [xe, Option.bind_eq_some_iff] at h
    obtain ⟨x, h1, y, h2, h3⟩ := h
    rw [pe]
    exact xlook_p h1 (fun e => xe_p hC a e (xlook_p h2 (fun e => xe_p hC b e (xok_wp h3 q)) (xok_wp h3 q))) (xlook_p h2 (fun e => xe_p hC b e (xok_wp h3 q)) (xok_wp h3 q))
  | .neg a, ρ, r, Q, X, h, q => by
    simp only [xe, Option.bind_eq_some_iff] at h
    obtain ⟨x, h1, h2⟩ := h
    rw [pe]
    refine xe_p hC a h1 ?_
    split at h2
    · cases h2; exact q
    · cases h2
  | .cmp op a b, ρ, r, Q, X, h, q => by
    simp only [xe, Option.bind_eq_some_iff, Option.map_eq_some_iff] at h
    obtain ⟨x, h1, y, h2, t, h3, rfl⟩ := h
    rw [pe]
    have fin : (match cmpP b.isVar op x y with
      | some t => Q (.val (.bl t))
      | none => False) := by rw [h3]; exact q
    exact xlook_p h1 (fun e => xe_p hC a e (xlook_p h2 (fun e => xe_p hC b e fin) fin)) (xlook_p h2 (fun e => xe_p hC b e fin) fin)
  | .chain o p a b c, ρ, r, Q, X, h, q => by
    simp only [xe, Option.bind_eq_some_iff] at h
    obtain ⟨x, h1, y, h2, h3⟩ := h
    rw [pe]
    refine xe_p hC a h1 (xe_p hC b h2 ?_)
    split at h3
    · rename_i e
      simp only [Option.bind_eq_some_iff, Option.map_eq_some_iff] at h3
      obtain ⟨z, h4, t, h5, rfl⟩ := h3
      try simp only [e]
      refine xe_p hC c h4 ?_
      try simp only [h5]
      exact q
    · rename_i e
      cases h3
      try simp only [e]
      exact q
    · cases h3
  | .and a b, ρ, r, Q, X, h, q => by
    simp only [xe, Option.bind_eq_some_iff] at h
    obtain ⟨x, h1, h2⟩ := h
    rw [pe]
    exact xe_p hC a h1 (xif_p h2 (fun e => xe_p hC b e q) fun e => by cases e; exact q)
  | .or a b, ρ, r, Q, X, h, q => by
    simp only [xe, Option.bind_eq_some_iff] at h
    obtain ⟨x, h1, h2⟩ := h
    rw [pe]
    exact xe_p hC a h1 (xif_p h2 (fun e => by cases e; exact q) fun e => xe_p hC b e q)
  | .not a, ρ, r, Q, X, h, q => by
    simp only [xe, Option.bind_eq_some_iff] at h
    obtain ⟨x, h1, h2⟩ := h
    rw [pe]
    exact xe_p hC a h1 (xif_p h2 (fun e => by cases e; exact q) fun e => by cases e; exact q)
  | .ite c a b, ρ, r, Q, X, h, q => by
    simp only [xe, Option.bind_eq_some_iff] at h
    obtain ⟨x, h1, h2⟩ := h
    rw [pe]
    exact xe_p hC c h1 (xif_p h2 (fun e => xe_p hC a e q) fun e => xe_p hC b e q)
  | .idx a i, ρ, r, Q, X, h, q => by
    simp only [xe, Option.bind_eq_some_iff, Option.map_eq_some_iff] at h
    obtain ⟨x, h1, y, h2, d, h3, rfl⟩ := h
    rw [pe]
    have fin : pe C' Γ i ρ (fun y => match idxP a.isVar x y with
      | some d => Q (toR d)
      | none => False) X := xe_p hC i h2 (by rw [h3]; exact q)
    exact xlook_p h1 (fun e => xe_p hC a e fin) fin
  | .slc a lo hi, ρ, r, Q, X, h, q => by
    simp only [xe, Option.bind_eq_some_iff] at h
    obtain ⟨x, h1, l, h2, m, h3, h4⟩ := h
    rw [pe]
    have fin : ppart lo (fun Q => pe C' Γ lo ρ Q X) fun l => ppart hi (fun Q => pe C' Γ hi ρ Q X) fun h => (cutR x l h []).wp fun z _ => Q z :=
      xpart_p h2 (fun y Q e q => xe_p hC lo e q) (xpart_p h3 (fun y Q e q => xe_p hC hi e q) (xok_wp h4 q))
    exact xlook_p h1 (fun e => xe_p hC a e fin) fin
  | .call f es ks dd, ρ, r, Q, X, h, q => by
    simp only [xe, Option.bind_eq_some_iff] at h
    obtain ⟨rs, h1, zs, h2, h3⟩ := h
    rw [pe]
    refine xers_p hC es h1 (xers_p hC ks h2 ?_)
    split at h3
    · rename_i hd
      exact ⟨hd, hC f _ r Q X h3 q⟩
    · cases h3
  | .len a, ρ, r, Q, X, h, q => by
    simp only [xe, Option.bind_eq_some_iff, Option.map_eq_some_iff] at h
    obtain ⟨x, h1, n, h2, rfl⟩ := h
    rw [pe]
    have fin : (match lenP x with
      | some n => Q (.val (.int n))
      | none => False) := by rw [h2]; exact q
    exact xlook_p h1 (fun e => xe_p hC a e fin) fin
  | .abs a, ρ, r, Q, X, h, q => by
    simp only [xe, Option.bind_eq_some_iff] at h
    obtain ⟨x, h1, h2⟩ := h
    rw [pe]
    refine xe_p hC a h1 ?_
    split at h2
    · cases h2; exact q
    · cases h2
  | .int1 a, ρ, r, Q, X, h, q => by
    simp only [xe, Option.bind_eq_some_iff] at h
    obtain ⟨x, h1, h2⟩ := h
    rw [pe]
    refine xe_p hC a h1 ?_
    split at h2
    · cases h2; exact q
    · cases h2; exact q
    · cases h2
  | .min2 a b, ρ, r, Q, X, h, q => by
    simp only [xe, Option.bind_eq_some_iff] at h
    obtain ⟨x, h1, y, h2, h3⟩ := h
    rw [pe]
    refine xe_p hC a h1 (xe_p hC b h2 ?_)
    split at h3
    · cases h3; exact q
    · cases h3
  | .max2 a b, ρ, r, Q, X, h, q => by
    simp only [xe, Option.bind_eq_some_iff] at h
    obtain ⟨x, h1, y, h2, h3⟩ := h
    rw [pe]
    refine xe_p hC a h1 (xe_p hC b h2 ?_)
    split at h3
    · cases h3; exact q
    · cases h3
  | .isi a t, ρ, r, Q, X, h, q => by
    simp only [xe, Option.bind_eq_some_iff, Option.map_eq_some_iff] at h
    obtain ⟨x, h1, n, h2, rfl⟩ := h
    rw [pe]
    have fin : (match isiR x t [] with
      | some n => Q (.val (.bl n))
      | none => False) := by rw [h2]; exact q
    exact xlook_p h1 (fun e => xe_p hC a e fin) fin
  | .seq b a, ρ, r, Q, X, h, q => by
    simp only [xe, Option.bind_eq_some_iff] at h
    obtain ⟨x, h1, h2⟩ := h
    rw [pe]
    exact xlook_p h1 (fun e => xe_p hC a e (xok_wp h2 q)) (xok_wp h2 q)
  | .lrng a b, ρ, r, Q, X, h, q => by
    simp only [xe, Option.bind_eq_some_iff] at h
    obtain ⟨x, h1, y, h2, h3⟩ := h
    rw [pe]
    refine xe_p hC a h1 (xe_p hC b h2 ?_)
    split at h3
    · split at h3
      · rename_i hc
        cases h3
        exact ⟨hc, q⟩
      · cases h3
    · cases h3
  | .comp e tg i ifs, ρ, r, Q, X, h, q => by
    simp only [xe, Option.bind_eq_some_iff] at h
    obtain ⟨ds, h1, h2⟩ := h
    rw [pe]
    refine xi_p hC true i h1 ?_
    split at h2
    · rename_i hl
      rw [Option.map_eq_some_iff] at h2
      obtain ⟨xs, h3, rfl⟩ := h2
      refine ⟨hl, xcomp_p (fun d o k hd hk => ?_) ds [] h3 q⟩
      simp only [Option.bind_eq_some_iff] at hd
      obtain ⟨ρ1, g1, t, g2, g3⟩ := hd
      refine xbind_p g1 (xifs_p hC ifs g2 ?_)
      split at g3
      · rename_i ht
        simp only [Option.bind_eq_some_iff, Option.map_eq_some_iff] at g3
        obtain ⟨x, g4, d', g5, rfl⟩ := g3
        rw [if_pos ht]
        exact xe_p hC e g4 (xd_p g5 hk)
      · rename_i ht
        rw [if_neg ht]
        cases g3
        exact hk
    · cases h2
  | .dcomp t ke e tg i ifs, ρ, r, Q, X, h, q => by
    simp only [xe, Option.bind_eq_some_iff, Option.map_eq_some_iff] at h
    obtain ⟨ds, h1, xs, h3, rfl⟩ := h
    rw [pe]
    refine xi_p hC true i h1 ?_
    refine xdcomp_p (fun d o k hd hk => ?_) ds [] h3 q
    simp only [Option.bind_eq_some_iff] at hd
    obtain ⟨ρ1, g1, t, g2, g3⟩ := hd
    refine xbind_p g1 (xifs_p hC ifs g2 ?_)
    split at g3
    · rename_i ht
      simp only [Option.bind_eq_some_iff, Option.map_eq_some_iff] at g3
      obtain ⟨x, g4, d', g5, y, g6, z, g7, rfl⟩ := g3
      rw [if_pos ht]
      exact xe_p hC ke g4 (xd_p g5 (xe_p hC e g6 (xd_p g7 hk)))
    · rename_i ht
      rw [if_neg ht]
      cases g3
      exact hk
  | .meth0 _ _, _, _, _, _, h, _ => by rw [xe] at h; cases h
  | .meth1 _ _ _, _, _, _, _, h, _ => by rw [xe] at h; cases h
theorem xes_p (hC : ∀ f rs r Q X, C f rs = some r → Q r → C' f rs Q X) : ∀ (e : Es) {ρ : PEnv} {r : List D} {Q : List D → Prop} {X : XP}, xes C Γ e ρ = some r → Q r → pes C' Γ e ρ Q X
  | .nil, ρ, r, Q, X, h, q => by rw [xes] at h; rw [pes]; cases h; exact q
  | .cons e r', ρ, r, Q, X, h, q => by
    simp only [xes, Option.bind_eq_some_iff, Option.map_eq_some_iff] at h
    obtain ⟨x, h1, d, h2, ds, h3, rfl⟩ := h
    rw [pes]
    exact xe_p hC e h1 (xd_p h2 (xes_p hC r' h3 q))
theorem xers_p (hC : ∀ f rs r Q X, C f rs = some r → Q r → C' f rs Q X) : ∀ (e : Es) {ρ : PEnv} {r : List R} {Q : List R → Prop} {X : XP}, xers C Γ e ρ = some r → Q r → pers C' Γ e ρ Q X
  | .nil, ρ, r, Q, X, h, q => by rw [xers] at h; rw [pers]; cases h; exact q
  | .cons e r', ρ, r, Q, X, h, q => by
    simp only [xers, Option.bind_eq_some_iff, Option.map_eq_some_iff] at h
    obtain ⟨x, h1, ds, h3, rfl⟩ := h
    rw [pers]
    exact xe_p hC e h1 (xers_p hC r' h3 q)
theorem xifs_p (hC : ∀ f rs r Q X, C f rs = some r → Q r → C' f rs Q X) : ∀ (e : Es) {ρ : PEnv} {r : Bool} {Q : Bool → Prop}, xifs C Γ e ρ = some r → Q r → pifs C' Γ e ρ Q
  | .nil, ρ, r, Q, h, q => by rw [xifs] at h; rw [pifs]; cases h; exact q
  | .cons e r', ρ, r, Q, h, q => by
    simp only [xifs, Option.bind_eq_some_iff] at h
    obtain ⟨x, h1, h2⟩ := h
    rw [pifs]
    exact xe_p hC e h1 (xif_p h2 (fun e => xifs_p hC r' e q) fun e => by cases e; exact q)
theorem xi_p (hC : ∀ f rs r Q X, C f rs = some r → Q r → C' f rs Q X) : ∀ (lk : Bool) (i : I) {ρ : PEnv} {r : List D} {Q : List D → Prop} {X : XP}, xi C Γ lk i ρ = some r → Q r → pi C' Γ lk i ρ Q X
  | lk, .ex e, ρ, r, Q, X, h, q => by
    simp only [xi, Option.bind_eq_some_iff] at h
    obtain ⟨x, h1, h2⟩ := h
    rw [pi]
    have fin : (match itemsP x with
      | some ds => Q ds
      | none => False) := by rw [h2]; exact q
    cases lk with
    | true =>
      simp only [if_true] at h1 ⊢
      exact xlook_p h1 (fun e' => xe_p hC e e' fin) fin
    | false =>
      simp only [Bool.false_eq_true, if_false] at h1 ⊢
      exact xe_p hC e h1 fin
  | _, .rng1 a, ρ, r, Q, X, h, q => by
    simp only [xi, Option.bind_eq_some_iff] at h
    obtain ⟨x, h1, h2⟩ := h
    rw [pi]
    refine xe_p hC a h1 ?_
    split at h2
    · split at h2
      · rename_i hc
        cases h2
        exact ⟨hc, q⟩
      · cases h2
    · cases h2
  | _, .rng2 a b, ρ, r, Q, X, h, q => by
    simp only [xi, Option.bind_eq_some_iff] at h
    obtain ⟨x, h1, y, h2, h3⟩ := h
    rw [pi]
    refine xe_p hC a h1 (xe_p hC b h2 ?_)
    split at h3
    · split at h3
      · rename_i hc
        cases h3
        exact ⟨hc, q⟩
      · cases h3
    · cases h3
  | lk, .enum e, ρ, r, Q, X, h, q => by
    simp only [xi, Option.bind_eq_some_iff, Option.map_eq_some_iff] at h
    obtain ⟨x, h1, ds, h2, rfl⟩ := h
    rw [pi]
    have fin : (match itemsP x with
      | some ds => Q (ds.zipIdx.map fun p => .tup [.int p.2, p.1])
      | none => False) := by rw [h2]; exact q
    cases lk with
    | true =>
      simp only [if_true] at h1 ⊢
      exact xlook_p h1 (fun e' => xe_p hC e e' fin) fin
    | false =>
      simp only [Bool.false_eq_true, if_false] at h1 ⊢
      exact xe_p hC e h1 fin
  | lk, .zip a b, ρ, r, Q, X, h, q => by
    simp only [xi, Option.bind_eq_some_iff] at h
    obtain ⟨x, h1, y, h2, h3⟩ := h
    rw [pi]
    split at h3
    · rename_i ht
      simp only [Option.bind_eq_some_iff, Option.map_eq_some_iff] at h3
      obtain ⟨ds, h4, es, h5, rfl⟩ := h3
      have fin : x.isTup = y.isTup ∧ (match itemsP x, itemsP y with
        | some ds, some es => Q ((ds.zip es).map fun p => .tup [p.1, p.2])
        | _, _ => False) := ⟨ht, by rw [h4, h5]; exact q⟩
      cases lk with
      | true =>
        simp only [if_true] at h1 h2 ⊢
        have g : plook ρ b (fun Q => pe C' Γ b ρ Q X) fun y => x.isTup = y.isTup ∧ (match itemsP x, itemsP y with
          | some ds, some es => Q ((ds.zip es).map fun p => .tup [p.1, p.2])
          | _, _ => False) := xlook_p h2 (fun e' => xe_p hC b e' fin) fin
        exact xlook_p h1 (fun e' => xe_p hC a e' g) g
      | false =>
        simp only [Bool.false_eq_true, if_false] at h1 h2 ⊢
        exact xe_p hC a h1 (xe_p hC b h2 fin)
    · cases h3
  | _, .items _, _, _, _, _, h, _ => by rw [xi] at h; cases h
end
end
/-! ### statements -/
def xloop (f : D → PEnv → Option XF) (k : List Nat) : List D → PEnv → Option XF
  | [], ρ => some (.nx ρ)
  | d :: ds, ρ => (f d ρ).bind fun o => match o with
    | .nx ρ' => xloop f k ds (kill k ρ')
    | .ct ρ' => xloop f k ds (kill k ρ')
    | .bk ρ' => some (.nx (kill k ρ'))
    | .rt r => some (.rt r)
def xwhl (c : PEnv → Option R) (f : PEnv → Option XF) (k : List Nat) : Nat → PEnv → Option XF
  | 0, _ => none
  | n + 1, ρ => (c ρ).bind fun x => match x with
    | .val (.bl true) => (f ρ).bind fun o => match o with
      | .nx ρ' => xwhl c f k n (kill k ρ')
      | .ct ρ' => xwhl c f k n (kill k ρ')
      | .bk ρ' => some (.nx (kill k ρ'))
      | .rt r => some (.rt r)
    | .val (.bl false) => some (.nx ρ)
    | _ => none
section
variable (C : CallX) (Γ : Str → Option D)
def xdis : List Bool → Es → PEnv → Option (List R)
  | [], .nil, _ => some []
  | t :: ts, .cons e r, ρ => (xe C Γ e ρ).bind fun x => if (if t = true then E.rf e && x.flat else true) = true then (xdis ts r ρ).map fun rs => x :: rs else none
  | _, _, _ => none
mutual
def xs : PS → PEnv → Option XF
  | .set i e, ρ => (xe C Γ e ρ).map fun r => .nx (ρ.set i (some (.fz, r)))
  | .setM i e, ρ => (xe C Γ e ρ).bind fun r => if (E.rf e && r.flat) = true then some (.nx (ρ.set i (some (.ow, r)))) else none
  | .setT js e, ρ => (xe C Γ e ρ).bind fun r => match r with
    | .val (.tup ds) => (psets ρ js ds).map .nx
    | _ => none
  | .setD ts js es, ρ => (xdis C Γ ts es ρ).bind fun rs => (psetV ρ ts js rs).map .nx
  | .putI m i e, ρ => match ρ[m]? with
    | some (some (.ow, .newD t kvs)) => (xe C Γ e ρ).bind fun r => (xd r).bind fun v => (xe C Γ i ρ).bind fun y => match y with
      | .val k => if (v.fl = true ∧ k.fl = true) ∧ keyFor t k = true ∧ kvs.length < LIM then some (.nx (ρ.set m (some (.ow, .newD t (dput kvs k v))))) else none
      | _ => none
    | some (some (.ow, .newL ds)) => (xe C Γ e ρ).bind fun r => (xd r).bind fun v => (xe C Γ i ρ).bind fun y => match y with
      | .val (.int j) => if v.fl = true then (L2.ixN ds.length j).map fun n => .nx (ρ.set m (some (.ow, .newL (ds.set n v)))) else none
      | _ => none
    | _ => none
  | .aug i op e, ρ => match ρ[i]? with
    | some (some (.fz, .val (.int a))) => (xe C Γ e ρ).bind fun y => match y with
      | .val (.int b) => (xok (binI op a b [])).map fun z => .nx (ρ.set i (some (.fz, z)))
      | _ => none
    | _ => none
  | .app m e, ρ => match ρ[m]? with
    | some (some (.ow, .newL ds)) => (xe C Γ e ρ).bind fun x => match x with
      | .val d => if d.fl = true ∧ ds.length < LIM then some (.nx (ρ.set m (some (.ow, .newL (ds ++ [d]))))) else none
      | _ => none
    | _ => none
  | .ext m e, ρ => match ρ[m]? with
    | some (some (.ow, .newL ds)) => (xlook ρ e (xe C Γ e ρ)).bind fun x => match x with
      | .newL xs => if D.flL xs = true ∧ ds.length + xs.length ≤ LIM then some (.nx (ρ.set m (some (.ow, .newL (ds ++ xs))))) else none
      | _ => none
    | _ => none
  | .rem m e, ρ => match ρ[m]? with
    | some (some (.ow, .newL ds)) => (xe C Γ e ρ).bind fun x => match x with
      | .val d => if (D.dok 60 d && ds.all (D.dok 60)) = true then (ds.findIdx? (fun z => D.eqv z d)).map fun j => .nx (ρ.set m (some (.ow, .newL (ds.eraseIdx j)))) else none
      | _ => none
    | _ => none
  | .popS i m a, ρ => match ρ[m]? with
    | some (some (.ow, .newL ds)) => (xe C Γ a ρ).bind fun x => match x with
      | .val (.int k) => (L2.ixN ds.length k).bind fun j => (ds[j]?).map fun d => .nx ((ρ.set m (some (.ow, .newL (ds.eraseIdx j)))).set i (some (.fz, .val d)))
      | _ => none
    | _ => none
  | .popL i m, ρ => match ρ[m]? with
    | some (some (.ow, .newL ds)) => (ds.getLast?).map fun d => .nx ((ρ.set m (some (.ow, .newL ds.dropLast))).set i (some (.fz, .val d)))
    | _ => none
  | .popA f m a, ρ => match ρ[f]?, ρ[m]? with
    | some (some (.ow, .newL fs)), some (some (.ow, .newL ds)) => (xe C Γ a ρ).bind fun x => match x with
      | .val (.int k) => if f ≠ m ∧ fs.length < LIM then (L2.ixN ds.length k).bind fun j => (ds[j]?).map fun d => .nx ((ρ.set m (some (.ow, .newL (ds.eraseIdx j)))).set f (some (.ow, .newL (fs ++ [d])))) else none
      | _ => none
    | _, _ => none
  | .expr e, ρ => (xe C Γ e ρ).map fun _ => .nx ρ
  | .ret e, ρ => (xe C Γ e (frzA ρ)).map .rt
  | .retN, _ => some (.rt (.val .non))
  | .ite c a b, ρ => (xe C Γ c ρ).bind fun x => xif x (xss a ρ) (xss b ρ)
  | .whl k c b, ρ => xwhl (fun ρ => xe C Γ c ρ) (fun ρ => xss b ρ) k WF (kill k ρ)
  | .for_ k tg i b, ρ => (xi C Γ false i ρ).bind fun ds => xloop (fun d ρ => (xbind tg (toR d) ρ).bind fun ρ1 => xss b ρ1) k ds (kill k ρ)
  | .brk, ρ => some (.bk ρ)
  | .cnt, ρ => some (.ct ρ)
  | .pass, ρ => some (.nx ρ)
  | .never, _ => none
def xss : PSs → PEnv → Option XF
  | .nil, ρ => some (.nx ρ)
  | .cons js s r, ρ => (xs s (frz js ρ)).bind fun o => match o with
    | .nx ρ1 => xss r ρ1
    | o => some o
end
end
def XF.ends (o : XF) (nx bk ct : PEnv → Prop) (rt : R → Prop) : Prop := match o with
  | .nx ρ => nx ρ
  | .bk ρ => bk ρ
  | .ct ρ => ct ρ
  | .rt r => rt r
section
variable {C : CallX} {C' : CallP} {Γ : Str → Option D}
theorem xloop_p {f : D → PEnv → Option XF} {g : D → PEnv → (PEnv → Prop) → (PEnv → Prop) → Prop} {k : List Nat} {fin : PEnv → Prop} {rt : R → Prop} {bk ct : PEnv → Prop} (hf : ∀ d ρ o nx bk, f d ρ = some o → o.ends nx bk nx rt → g d ρ nx bk) : ∀ (ds : List D) (ρ : PEnv) {o : XF}, xloop f k ds ρ = some o → o.ends fin bk ct rt → (match o with
    | .nx _ => True
    | .rt _ => True
    | _ => False) → ploop g k fin ds ρ
  | [], ρ, o, h, q, _ => by cases h; exact q
  | d :: ds, ρ, o, h, q, z => by
    rw [xloop, Option.bind_eq_some_iff] at h
    obtain ⟨p, h1, h2⟩ := h
    refine hf d ρ p _ _ h1 ?_
    cases p with
    | nx ρ' => exact xloop_p hf ds _ h2 q z
    | ct ρ' => exact xloop_p hf ds _ h2 q z
    | bk ρ' => cases h2; exact q
    | rt r => cases h2; exact q
theorem xwhl_p {c : PEnv → Option R} {f : PEnv → Option XF} {cp : PEnv → (R → Prop) → Prop} {g : PEnv → (PEnv → Prop) → (PEnv → Prop) → Prop} {k : List Nat} {fin : PEnv → Prop} {rt : R → Prop} {bk ct : PEnv → Prop} (hc : ∀ ρ r Q, c ρ = some r → Q r → cp ρ Q) (hf : ∀ ρ o nx bk, f ρ = some o → o.ends nx bk nx rt → g ρ nx bk) : ∀ (n : Nat) (ρ : PEnv) {o : XF}, xwhl c f k n ρ = some o → o.ends fin bk ct rt → (match o with
    | .nx _ => True
    | .rt _ => True
    | _ => False) → pwhl cp g k fin n ρ
  | 0, ρ, o, h, q, _ => by cases h
  | n + 1, ρ, o, h, q, z => by
    rw [xwhl, Option.bind_eq_some_iff] at h
    obtain ⟨x, h1, h2⟩ := h
    refine hc ρ x _ h1 ?_
    split at h2
    · rw [Option.bind_eq_some_iff] at h2
      obtain ⟨p, h3, h4⟩ := h2
      refine hf ρ p _ _ h3 ?_
      cases p with
      | nx ρ' => exact xwhl_p hc hf n _ h4 q z
      | ct ρ' => exact xwhl_p hc hf n _ h4 q z
      | bk ρ' => cases h4; exact q
      | rt r => cases h4; exact q
    · cases h2; exact q
    · cases h2
theorem xloop_o {f : D → PEnv → Option XF} {k : List Nat} : ∀ (ds : List D) (ρ : PEnv) {o : XF}, xloop f k ds ρ = some o → (match o with
    | .nx _ => True
    | .rt _ => True
    | _ => False)
  | [], ρ, o, h => by cases h; trivial
  | d :: ds, ρ, o, h => by
    rw [xloop, Option.bind_eq_some_iff] at h
    obtain ⟨p, h1, h2⟩ := h
    cases p with
    | nx ρ' => exact xloop_o ds _ h2
    | ct ρ' => exact xloop_o ds _ h2
    | bk ρ' => cases h2; trivial
    | rt r => cases h2; trivial
theorem xwhl_o {c : PEnv → Option R} {f : PEnv → Option XF} {k : List Nat} : ∀ (n : Nat) (ρ : PEnv) {o : XF}, xwhl c f k n ρ = some o → (match o with
    | .nx _ => True
    | .rt _ => True
    | _ => False)
  | 0, ρ, o, h => by cases h
  | n + 1, ρ, o, h => by
    rw [xwhl, Option.bind_eq_some_iff] at h
    obtain ⟨x, h1, h2⟩ := h
    split at h2
    · rw [Option.bind_eq_some_iff] at h2
      obtain ⟨p, h3, h4⟩ := h2
      cases p with
      | nx ρ' => exact xwhl_o n _ h4
      | ct ρ' => exact xwhl_o n _ h4
      | bk ρ' => cases h4; trivial
      | rt r => cases h4; trivial
    · cases h2; trivial
    · cases h2
theorem xdis_p (hC : ∀ f rs r Q X, C f rs = some r → Q r → C' f rs Q X) : ∀ (ts : List Bool) (es : Es) {ρ : PEnv} {r : List R} {Q : List R → Prop} {X : XP}, xdis C Γ ts es ρ = some r → Q r → pdis C' Γ ts es ρ Q X
  | [], .nil, ρ, r, Q, X, h, q => by rw [xdis] at h; rw [pdis]; cases h; exact q
  | t :: ts, .cons e es, ρ, r, Q, X, h, q => by
    rw [xdis, Option.bind_eq_some_iff] at h
    obtain ⟨x, h1, h2⟩ := h
    rw [pdis]
    refine xe_p hC e h1 ?_
    generalize hb : (if t = true then e.rf && x.flat else true) = b at h2 ⊢
    cases b with
    | true =>
      rw [if_pos rfl, Option.map_eq_some_iff] at h2
      obtain ⟨rs, h3, rfl⟩ := h2
      exact ⟨rfl, xdis_p hC ts es h3 q⟩
    | false => cases h2
  | [], .cons _ _, _, _, _, _, h, _ => by simp [xdis] at h
  | _ :: _, .nil, _, _, _, _, h, _ => by simp [xdis] at h
mutual
theorem xs_p (hC : ∀ f rs r Q X, C f rs = some r → Q r → C' f rs Q X) : ∀ (s : PS) {ρ : PEnv} {o : XF} {nx bk ct : PEnv → Prop} {rt : R → Prop} {X : Str → D → PEnv → Prop}, xs C Γ s ρ = some o → o.ends nx bk ct rt → ps C' Γ s ρ nx bk ct rt X
  | .set i e, ρ, o, nx, bk, ct, rt, X, h, q => by
    rw [xs, Option.map_eq_some_iff] at h
    obtain ⟨r, h1, rfl⟩ := h
    rw [ps]
    exact xe_p hC e h1 q
  | .setM i e, ρ, o, nx, bk, ct, rt, X, h, q => by
    rw [xs, Option.bind_eq_some_iff] at h
    obtain ⟨r, h1, h2⟩ := h
    rw [ps]
    refine xe_p hC e h1 ?_
    split at h2
    · rename_i hc
      cases h2
      exact ⟨hc, q⟩
    · cases h2
  | .setT js e, ρ, o, nx, bk, ct, rt, X, h, q => by
    rw [xs, Option.bind_eq_some_iff] at h
    obtain ⟨r, h1, h2⟩ := h
    rw [ps]
    refine xe_p hC e h1 ?_
    split at h2
    · rw [Option.map_eq_some_iff] at h2
      obtain ⟨ρ1, h3, rfl⟩ := h2
      try simp only [h3]
      exact q
    · cases h2
  | .setD ts js es, ρ, o, nx, bk, ct, rt, X, h, q => by
    simp only [xs, Option.bind_eq_some_iff, Option.map_eq_some_iff] at h
    obtain ⟨r, h1, ρ1, h2, rfl⟩ := h
    rw [ps]
    refine xdis_p hC ts es h1 ?_
    try simp only [h2]
    exact q
  | .putI m i e, ρ, o, nx, bk, ct, rt, X, h, q => by
    rw [xs] at h
    rw [ps]
    split at h
    · rename_i e1
      simp only [Option.bind_eq_some_iff] at h
      obtain ⟨r, h1, v, h2, y, h3, h4⟩ := h
      try simp only [e1]
      refine xe_p hC e h1 (xd_p h2 (xe_p hC i h3 ?_))
      split at h4
      · split at h4
        · rename_i hc
          cases h4
          exact ⟨hc, q⟩
        · cases h4
      · cases h4
    · rename_i e1
      simp only [Option.bind_eq_some_iff] at h
      obtain ⟨r, h1, v, h2, y, h3, h4⟩ := h
      try simp only [e1]
      refine xe_p hC e h1 (xd_p h2 (xe_p hC i h3 ?_))
      split at h4
      · split at h4
        · rename_i hc
          rw [Option.map_eq_some_iff] at h4
          obtain ⟨n, h5, rfl⟩ := h4
          try simp only [h5]
          exact ⟨hc, q⟩
        · cases h4
      · cases h4
    · cases h
  | .aug i op e, ρ, o, nx, bk, ct, rt, X, h, q => by
    rw [xs] at h
    rw [ps]
    split at h
    · rename_i e1
      rw [Option.bind_eq_some_iff] at h
      obtain ⟨y, h1, h2⟩ := h
      try simp only [e1]
      refine xe_p hC e h1 ?_
      split at h2
      · rw [Option.map_eq_some_iff] at h2
        obtain ⟨z, h3, rfl⟩ := h2
        exact xok_wp (Q := fun z => nx (ρ.set i (some (.fz, z)))) h3 q
      · cases h2
    · cases h
  | .app m e, ρ, o, nx, bk, ct, rt, X, h, q => by
    rw [xs] at h
    rw [ps]
    split at h
    · rename_i e1
      rw [Option.bind_eq_some_iff] at h
      obtain ⟨y, h1, h2⟩ := h
      try simp only [e1]
      refine xe_p hC e h1 ?_
      split at h2
      · split at h2
        · rename_i hc
          cases h2
          exact ⟨hc, q⟩
        · cases h2
      · cases h2
    · cases h
  | .ext m e, ρ, o, nx, bk, ct, rt, X, h, q => by
    rw [xs] at h
    rw [ps]
    split at h
    · rename_i e1
      rw [Option.bind_eq_some_iff] at h
      obtain ⟨y, h1, h2⟩ := h
      try simp only [e1]
      split at h2
      · split at h2
        · rename_i hc
          cases h2
          exact xlook_p h1 (fun e' => xe_p hC e e' ⟨hc, q⟩) ⟨hc, q⟩
        · cases h2
      · cases h2
    · cases h
  | .rem m e, ρ, o, nx, bk, ct, rt, X, h, q => by
    rw [xs] at h
    rw [ps]
    split at h
    · rename_i e1
      rw [Option.bind_eq_some_iff] at h
      obtain ⟨y, h1, h2⟩ := h
      try simp only [e1]
      refine xe_p hC e h1 ?_
      split at h2
      · split at h2
        · rename_i hc
          rw [Option.map_eq_some_iff] at h2
          obtain ⟨n, h5, rfl⟩ := h2
          try simp only [h5]
          exact ⟨hc, q⟩
        · cases h2
      · cases h2
    · cases h
  | .popS i m a, ρ, o, nx, bk, ct, rt, X, h, q => by
    rw [xs] at h
    rw [ps]
    split at h
    · rename_i e1
      rw [Option.bind_eq_some_iff] at h
      obtain ⟨y, h1, h2⟩ := h
      try simp only [e1]
      refine xe_p hC a h1 ?_
      split at h2
      · simp only [Option.bind_eq_some_iff, Option.map_eq_some_iff] at h2
        obtain ⟨j, h3, d, h4, rfl⟩ := h2
        try simp only [h3, h4]
        exact q
      · cases h2
    · cases h
  | .popL i m, ρ, o, nx, bk, ct, rt, X, h, q => by
    rw [xs] at h
    rw [ps]
    split at h
    · rename_i e1
      rw [Option.map_eq_some_iff] at h
      obtain ⟨d, h1, rfl⟩ := h
      try simp only [e1, h1]
      exact q
    · cases h
  | .popA f m a, ρ, o, nx, bk, ct, rt, X, h, q => by
    rw [xs] at h
    rw [ps]
    split at h
    · rename_i e1 e2
      rw [Option.bind_eq_some_iff] at h
      obtain ⟨y, h1, h2⟩ := h
      try simp only [e1, e2]
      refine xe_p hC a h1 ?_
      split at h2
      · split at h2
        · rename_i hc
          simp only [Option.bind_eq_some_iff, Option.map_eq_some_iff] at h2
          obtain ⟨j, h3, d, h4, rfl⟩ := h2
          try simp only [h3, h4]
          exact ⟨hc, q⟩
        · cases h2
      · cases h2
    · cases h
  | .expr e, ρ, o, nx, bk, ct, rt, X, h, q => by
    rw [xs, Option.map_eq_some_iff] at h
    obtain ⟨r, h1, rfl⟩ := h
    rw [ps]
    exact xe_p hC e h1 q
  | .ret e, ρ, o, nx, bk, ct, rt, X, h, q => by
    rw [xs, Option.map_eq_some_iff] at h
    obtain ⟨r, h1, rfl⟩ := h
    rw [ps]
    exact xe_p hC e h1 q
  | .retN, ρ, o, nx, bk, ct, rt, X, h, q => by rw [xs] at h; rw [ps]; cases h; exact q
  | .ite c a b, ρ, o, nx, bk, ct, rt, X, h, q => by
    rw [xs, Option.bind_eq_some_iff] at h
    obtain ⟨x, h1, h2⟩ := h
    rw [ps]
    exact xe_p hC c h1 (xif_p h2 (fun e => xss_p hC a e q) fun e => xss_p hC b e q)
  | .whl k c b, ρ, o, nx, bk, ct, rt, X, h, q => by
    rw [xs] at h
    rw [ps]
    exact xwhl_p (c := fun ρ => xe C Γ c ρ) (f := fun ρ => xss C Γ b ρ) (bk := bk) (ct := ct) (fun ρ r Q e q => xe_p hC c e q) (fun ρ o nx bk e q => xss_p hC b e q) WF _ h q (xwhl_o WF _ h)
  | .for_ k tg i b, ρ, o, nx, bk, ct, rt, X, h, q => by
    rw [xs, Option.bind_eq_some_iff] at h
    obtain ⟨ds, h1, h2⟩ := h
    rw [ps]
    refine xi_p hC false i h1 (xloop_p (bk := bk) (ct := ct) (fun d ρ o nx bk e q => ?_) ds _ h2 q (xloop_o ds _ h2))
    rw [Option.bind_eq_some_iff] at e
    obtain ⟨ρ1, g1, g2⟩ := e
    exact xbind_p g1 (xss_p hC b g2 q)
  | .brk, ρ, o, nx, bk, ct, rt, X, h, q => by rw [xs] at h; rw [ps]; cases h; exact q
  | .cnt, ρ, o, nx, bk, ct, rt, X, h, q => by rw [xs] at h; rw [ps]; cases h; exact q
  | .pass, ρ, o, nx, bk, ct, rt, X, h, q => by rw [xs] at h; rw [ps]; cases h; exact q
  | .never, ρ, o, nx, bk, ct, rt, X, h, q => by rw [xs] at h; cases h
theorem xss_p (hC : ∀ f rs r Q X, C f rs = some r → Q r → C' f rs Q X) : ∀ (s : PSs) {ρ : PEnv} {o : XF} {nx bk ct : PEnv → Prop} {rt : R → Prop} {X : Str → D → PEnv → Prop}, xss C Γ s ρ = some o → o.ends nx bk ct rt → pss C' Γ s ρ nx bk ct rt X
  | .nil, ρ, o, nx, bk, ct, rt, X, h, q => by rw [xss] at h; rw [pss]; cases h; exact q
  | .cons js s r, ρ, o, nx, bk, ct, rt, X, h, q => by
    rw [xss, Option.bind_eq_some_iff] at h
    obtain ⟨p, h1, h2⟩ := h
    rw [pss]
    refine xs_p hC s h1 ?_
    cases p with
    | nx ρ1 => exact xss_p hC r h2 q
    | bk ρ1 => cases h2; exact q
    | ct ρ1 => cases h2; exact q
    | rt r => cases h2; exact q
end
end
def xcall (T : PTab) (Γ : Str → Option D) : Nat → CallX
  | 0 => fun _ _ => none
  | n + 1 => fun f args => if f = "_law_take" ∨ f = "_law_box" then none else match T f with
    | none => none
    | some fd => if args.length = fd.np then (xss (xcall T Γ n) Γ fd.body (args.map (fun r => some (.fz, r)) ++ List.replicate (fd.ns - fd.np) none)).bind fun o => match o with
      | .rt r => some r
      | .nx _ => some (.val .non)
      | _ => none else none
theorem xcall_p {T : PTab} {Γ : Str → Option D} : ∀ (n : Nat) f rs r Q X, xcall T Γ n f rs = some r → Q r → callP T Γ n f rs Q X
  | 0, f, rs, r, Q, X, h, q => by cases h
  | n + 1, f, rs, r, Q, X, h, q => by
    simp only [xcall] at h
    split at h
    · cases h
    · rename_i hf
      simp only [callP]
      rw [if_neg fun e => hf (.inl e), if_neg fun e => hf (.inr e)]
      split at h
      · cases h
      · rename_i fd e
        split at h
        · rename_i hl
          rw [Option.bind_eq_some_iff] at h
          obtain ⟨o, h1, h2⟩ := h
          try rw [e]
          refine ⟨hl, xss_p (xcall_p n) fd.body h1 ?_⟩
          cases o with
          | rt r' => cases h2; exact q
          | nx ρ' => cases h2; exact q
          | _ => cases h2
        · cases h
/-- a def that calls none -/
theorem pcall_x {T : PTab} {Γ : Str → Option D} {n : Nat} {f : Str} {fd : PFn} {args : List R} {Q : R → Prop} {Y : XP} {r : R} (hT : T f = some fd) (h1 : f ≠ "_law_take") (h2 : f ≠ "_law_box") (h3 : args.length = fd.np)
    (h : xss (fun _ _ => none) Γ fd.body (args.map (fun r => some (.fz, r)) ++ List.replicate (fd.ns - fd.np) none) = some (.rt r)) (q : Q r) : callP T Γ (n + 1) f args Q Y :=
  pcall hT h1 h2 h3 (xss_p (fun f rs r Q X e _ => by cases e) fd.body h q)
def xval (o : Option XF) (d : D) : Bool := match o with
  | some (.rt (.val e)) => D.beq e d
  | _ => false
theorem xval_eq {o : Option XF} {d : D} (h : xval o d = true) : o = some (.rt (.val d)) := by
  unfold xval at h
  split at h
  · rw [D.eq_of_beq _ _ h]
  · cases h
theorem tabP_of : ∀ {l : List (Str × PFn)} (i : Nat) {s : Str} {p : PFn}, (l.map (·.1)).Nodup → l[i]? = some (s, p) → tabP l s = some p
  | [], i, s, p, _, h => by simp at h
  | q :: l, 0, s, p, _, h => by
    simp at h
    subst h
    unfold tabP
    rw [List.find?_cons]
    simp
  | q :: l, i + 1, s, p, nd, h => by
    simp at h
    rw [List.map_cons, List.nodup_cons] at nd
    have hm : s ∈ l.map (·.1) := List.mem_map.mpr ⟨(s, p), List.mem_of_getElem? h, rfl⟩
    have hne : ¬ q.1 = s := fun e => nd.1 (e ▸ hm)
    have := tabP_of (l := l) i nd.2 h
    unfold tabP at this ⊢
    rw [List.find?_cons, decide_eq_false hne]
    exact this
end LK

set_option Elab.async false
set_option linter.all false
set_option autoImplicit false
set_option maxRecDepth 100000
set_option maxHeartbeats 1000000
/-! PBase: houses, stands; _law_pick, _law_same, wanted_place, has_room. -/
namespace LK
open PySem
def p__law_pick : PFn :=
  ⟨2, 2, .cons [] (.ret (.idx (.var 1) (.call "_law_take" (.cons (.var 0) (.cons (.len (.var 1)) (.nil))) (.nil) [])))
    (.nil)⟩
def p__law_same : PFn :=
  ⟨2, 4, .cons [] (.ite (.isi (.var 1) .tuple)
    (.cons [] (.ite (.or (.not (.isi (.var 0) .tuple)) (.cmp .ne (.len (.var 0)) (.len (.var 1))))
    (.cons [] (.ret (.bl false))
    (.nil))
    (.nil))
    (.cons [] (.for_ [2, 3] (.many [2, 3]) (.zip (.var 0) (.var 1))
    (.cons [] (.ite (.not (.call "_law_same" (.cons (.var 2) (.cons (.var 3) (.nil))) (.nil) []))
    (.cons [] (.ret (.bl false))
    (.nil))
    (.nil))
    (.nil)))
    (.cons [] (.ret (.bl true))
    (.nil))))
    (.nil))
    (.cons [] (.ite (.cmp .is (.var 1) (.non))
    (.cons [] (.ret (.cmp .is (.var 0) (.non)))
    (.nil))
    (.nil))
    (.cons [] (.ite (.or (.cmp .is (.var 1) (.bl true)) (.cmp .is (.var 1) (.bl false)))
    (.cons [] (.ret (.and (.isi (.var 0) .bool) (.cmp .eq (.var 0) (.var 1))))
    (.nil))
    (.nil))
    (.cons [] (.ite (.isi (.var 1) .int)
    (.cons [] (.ret (.and (.isi (.var 0) .int) (.and (.not (.isi (.var 0) .bool)) (.cmp .eq (.var 0) (.var 1)))))
    (.nil))
    (.nil))
    (.cons [] (.ret (.and (.isi (.var 0) .str) (.and (.isi (.var 1) .str) (.cmp .eq (.var 0) (.var 1)))))
    (.nil)))))⟩
def p_wanted_place : PFn :=
  ⟨2, 2, .cons [] (.ret (.ite (.cmp .eq (.idx (.var 1) (.int 1)) (.glob "OUT")) (.non) (.idx (.idx (.idx (.var 0) (.int 1)) (.idx (.var 1) (.int 1))) (.int 0))))
    (.nil)⟩
def p_has_room : PFn :=
  ⟨3, 3, .cons [] (.ret (.cmp .lt (.len (.idx (.var 1) (.var 2))) (.idx (.idx (.var 0) (.int 0)) (.var 2))))
    (.nil)⟩
/-! ### data -/
abbrev Stg := Int × List Int
def stD (s : Stg) : D := .tup [.int s.1, .tup (s.2.map .int)]
def hD (seats : List Int) (st : List Stg) : D := .tup [.tup (seats.map .int), .tup (st.map stD)]
def stg (st : List Stg) (a : Int) : Stg := st.getD a.toNat (0, [])
def seat (seats : List Int) (p : Int) : Int := seats.getD p.toNat 0
/-- a guest: its stage, the next that it is told -/
abbrev Gst := Int × Int
def gD (g : Gst) : D := .tup [.int g.1, .int g.2]
def rowD (r : List Gst) : D := .tup (r.map gD)
def sD (s : List (List Gst)) : D := .tup (s.map rowD)
def row (s : List (List Gst)) (p : Int) : List Gst := s.getD p.toNat []
def ltG (a b : Gst) : Prop := a.1 < b.1 ∨ a.1 = b.1 ∧ a.2 < b.2
def leG (a b : Gst) : Bool := !decide ([b.1, b.2] < [a.1, a.2])
/-- a house -/
structure Hok (seats : List Int) (st : List Stg) : Prop where
  ls : 1 ≤ seats.length ∧ seats.length ≤ 1000
  lst : 1 ≤ st.length ∧ st.length ≤ 1000
  seat : ∀ q ∈ seats, 1 ≤ q ∧ q ≤ 1000
  pl : ∀ s ∈ st, 0 ≤ s.1 ∧ s.1 < seats.length
  nx : ∀ s ∈ st, s.2.length ≤ 1001 ∧ s.2 ≠ [] ∧ ∀ a ∈ s.2, a = -1 ∨ 0 ≤ a ∧ a < st.length
  asc : ∀ s ∈ st, s.2.Pairwise (· < ·)
  off : ∀ s ∈ st, ∀ a ∈ s.2, a ≠ -1 → (stg st a).1 ≠ s.1
/-- a stand -/
structure Sok (seats : List Int) (st : List Stg) (s : List (List Gst)) : Prop where
  len : s.length = seats.length
  row : ∀ p : Int, 0 ≤ p → p < s.length → ((row s p).length : Int) ≤ LK.seat seats p
  at_ : ∀ p : Int, 0 ≤ p → p < s.length → ∀ g ∈ LK.row s p, (0 ≤ g.1 ∧ g.1 < st.length) ∧ (stg st g.1).1 = p ∧ g.2 ∈ (stg st g.1).2
  srt : ∀ r ∈ s, r.Pairwise fun a b => leG a b = true
/-- the place that is wanted, of a next -/
def wO (st : List Stg) (a : Int) : Option Int := if a = -1 then none else some (stg st a).1
def optD (o : Option Int) : D := match o with
  | none => .non
  | some i => .int i
@[simp] theorem optD_none : optD none = .non := rfl
@[simp] theorem optD_some {i : Int} : optD (some i) = .int i := rfl
@[simp] theorem optD_fl {o : Option Int} : (optD o).fl = true := by cases o <;> rfl
@[simp] theorem optD_pl0 {o : Option Int} : pl0 (optD o) = true := by cases o <;> rfl
theorem optD_inj {a b : Option Int} (h : optD a = optD b) : a = b := by cases a <;> cases b <;> simp_all [optD]
@[simp] theorem optD_eq_non {o : Option Int} : optD o = .non ↔ o = none := by cases o <;> simp [optD]
@[simp] theorem optD_eq_int {o : Option Int} {i : Int} : optD o = .int i ↔ o = some i := by cases o <;> simp [optD]
@[simp] theorem fl_gD {g : Gst} : (gD g).fl = true := rfl
@[simp] theorem fl_rowD {r : List Gst} : (rowD r).fl = true := by unfold rowD; rw [fl_tup]; exact flL_map fun _ _ => rfl
@[simp] theorem fl_sD {r : List (List Gst)} : (sD r).fl = true := by unfold sD; rw [fl_tup]; exact flL_map fun _ _ => fl_rowD
@[simp] theorem fl_stD {s : Stg} : (stD s).fl = true := by unfold stD; simp
@[simp] theorem fl_hD {seats : List Int} {st : List Stg} : (hD seats st).fl = true := by unfold hD; simp; exact flL_map fun _ _ => fl_stD
@[simp] theorem fl_tiD {t : List Int} : (tiD t).fl = true := by unfold tiD; simp
@[simp] theorem flL_gs {l : List Gst} : D.flL (l.map gD) = true := flL_map fun _ _ => rfl
@[simp] theorem flL_rows {l : List (List Gst)} : D.flL (l.map rowD) = true := flL_map fun _ _ => fl_rowD
@[simp] theorem flL_sts {l : List Stg} : D.flL (l.map stD) = true := flL_map fun _ _ => fl_stD
@[simp] theorem flL_tis {l : List (List Int)} : D.flL (l.map tiD) = true := flL_map fun _ _ => fl_tiD
@[simp] theorem flL_opts {l : List (Option Int)} : D.flL (l.map optD) = true := flL_map fun _ _ => optD_fl
@[simp] theorem toR_gD {g : Gst} : toR (gD g) = .val (gD g) := rfl
@[simp] theorem toR_rowD {g : List Gst} : toR (rowD g) = .val (rowD g) := rfl
@[simp] theorem toR_sD {g : List (List Gst)} : toR (sD g) = .val (sD g) := rfl
@[simp] theorem toR_stD {g : Stg} : toR (stD g) = .val (stD g) := rfl
@[simp] theorem toR_hD {seats : List Int} {st : List Stg} : toR (hD seats st) = .val (hD seats st) := rfl
@[simp] theorem toR_tiD {t : List Int} : toR (tiD t) = .val (tiD t) := rfl
@[simp] theorem toR_optD {o : Option Int} : toR (optD o) = .val (optD o) := by cases o <;> rfl
theorem nb_ints {l : List Int} : D.nbL (l.map .int) = true := nbL_map fun _ _ => rfl
@[simp] theorem pl0_tiD {t : List Int} : pl0 (tiD t) = true := by
  unfold pl0
  rw [dok_tI]
  unfold tiD
  rw [nb_tup, nb_ints]
  rfl
theorem gD_ti {g : Gst} : gD g = tiD [g.1, g.2] := rfl
@[simp] theorem pl0_gD {g : Gst} : pl0 (gD g) = true := by rw [gD_ti]; exact pl0_tiD
theorem gD_inj {a b : Gst} (h : gD a = gD b) : a = b := by
  unfold gD at h
  injection h with h
  injection h with h1 h
  injection h with h2 h
  injection h1 with h1
  injection h2 with h2
  exact Prod.ext h1 h2
@[simp] theorem gD_eq {a b : Gst} : gD a = gD b ↔ a = b := ⟨gD_inj, fun h => by rw [h]⟩
theorem tiD_inj' {a b : List Int} (h : tiD a = tiD b) : a = b := by
  unfold tiD at h
  injection h with h
  exact (List.map_inj_right fun x y h => by injection h).mp h
@[simp] theorem tiD_eq {a b : List Int} : tiD a = tiD b ↔ a = b := ⟨tiD_inj', fun h => by rw [h]⟩
section
variable {seats : List Int} {st : List Stg} {s : List (List Gst)}
theorem atI_ge {α : Type} {l : List α} {a : Int} (h0 : 0 ≤ a) : L2.atI l a = l[a.toNat]? := by
  obtain ⟨n, rfl⟩ := Int.eq_ofNat_of_zero_le h0
  exact at_nat
theorem atI_map {α β : Type} {f : α → β} {l : List α} {a : Int} {d : α} (h0 : 0 ≤ a) (h1 : a < l.length) : L2.atI (l.map f) a = some (f (l.getD a.toNat d)) := by
  have h : a.toNat < l.length := by omega
  rw [atI_ge h0, List.getElem?_map, List.getElem?_eq_getElem h, List.getD_eq_getElem?_getD, List.getElem?_eq_getElem h]
  rfl
theorem st_at {a : Int} (h0 : 0 ≤ a) (h1 : a < st.length) : L2.atI (st.map stD) a = some (stD (stg st a)) := atI_map h0 h1
theorem seat_at {a : Int} (h0 : 0 ≤ a) (h1 : a < seats.length) : L2.atI (seats.map D.int) a = some (.int (seat seats a)) := atI_map h0 h1
theorem row_at {a : Int} (h0 : 0 ≤ a) (h1 : a < s.length) : L2.atI (s.map rowD) a = some (rowD (row s a)) := atI_map h0 h1
theorem int_at {l : List Int} {a : Int} (h0 : 0 ≤ a) (h1 : a < l.length) : L2.atI (l.map D.int) a = some (.int (l.getD a.toNat 0)) := atI_map h0 h1
theorem getD_mem {α : Type} {l : List α} {n : Nat} {d : α} (h : n < l.length) : l.getD n d ∈ l := by
  rw [List.getD_eq_getElem?_getD, List.getElem?_eq_getElem h]
  exact List.getElem_mem h
theorem stg_mem {a : Int} (h0 : 0 ≤ a) (h1 : a < st.length) : stg st a ∈ st := getD_mem (by omega)
theorem seat_mem {a : Int} (h0 : 0 ≤ a) (h1 : a < seats.length) : seat seats a ∈ seats := getD_mem (by omega)
theorem row_mem {a : Int} (h0 : 0 ≤ a) (h1 : a < s.length) : row s a ∈ s := getD_mem (by omega)
theorem Hok.stg_pl (ok : Hok seats st) {a : Int} (h0 : 0 ≤ a) (h1 : a < st.length) : 0 ≤ (stg st a).1 ∧ (stg st a).1 < seats.length := ok.pl _ (stg_mem h0 h1)
theorem Sok.nx (ok : Sok seats st s) (hk : Hok seats st) {p : Int} (h0 : 0 ≤ p) (h1 : p < s.length) {g : Gst} (hg : g ∈ LK.row s p) : g.2 = -1 ∨ 0 ≤ g.2 ∧ g.2 < st.length := by
  have h := ok.at_ p h0 h1 g hg
  exact (hk.nx _ (stg_mem h.1.1 h.1.2)).2.2 _ h.2.2
theorem Sok.row_le (ok : Sok seats st s) (hk : Hok seats st) {p : Int} (h0 : 0 ≤ p) (h1 : p < s.length) : (LK.row s p).length ≤ 1000 := by
  have h := ok.row p h0 h1
  have := (hk.seat _ (seat_mem h0 (by rw [← ok.len]; exact h1))).2
  omega
theorem wO_pl (hk : Hok seats st) {a p : Int} (ha : a = -1 ∨ 0 ≤ a ∧ a < st.length) (h : wO st a = some p) : 0 ≤ p ∧ p < seats.length := by
  unfold wO at h
  split at h
  · cases h
  · rename_i h1
    cases h
    exact hk.stg_pl (ha.resolve_left h1).1 (ha.resolve_left h1).2
end
/-! ### sorted -/
theorem sorted_new {α : Type} {f : α → D} {le : α → α → Bool} {ks : List α} {W : R → Hpp → Prop} (ha : ∀ a ∈ ks, ∀ b ∈ ks, alikeD (f a) (f b) = true) (hn : ∀ a ∈ ks, f a ≠ .tup []) (hl : ∀ a b, leD (f a) (f b) = le a b) (h : W (.newL ((ks.mergeSort le).map f)) []) : (seqR .sorted (.newL (ks.map f)) []).wp W := by
  have := sort_map (G := []) ha hn hl
  show (seqC .sorted (ks.map f) []).wp W
  rw [this]
  exact h
theorem sortOk_map {α : Type} {f : α → D} {ks : List α} (ha : ∀ a ∈ ks, ∀ b ∈ ks, alikeD (f a) (f b) = true) (hn : ∀ a ∈ ks, f a ≠ .tup []) : sortOk (ks.map f) = true := by
  unfold sortOk alikeAllD
  simp only [Bool.and_eq_true, List.all_eq_true, List.mem_map]
  refine ⟨?_, ?_⟩
  · rintro x ⟨a, ha', rfl⟩ y ⟨b, hb', rfl⟩
    exact ha a ha' b hb'
  · rintro x ⟨a, ha', rfl⟩
    have := hn a ha'
    split
    · rename_i e; exact absurd e this
    · rfl
@[simp] theorem sortOk_ints {l : List Int} : sortOk (l.map .int) = true := sortOk_map (fun a _ b _ => alike_int a b) fun a _ h => by cases h
@[simp] theorem sortOk_gs {l : List Gst} : sortOk (l.map gD) = true := sortOk_map (fun a _ b _ => by rw [gD_ti, gD_ti]; exact alike_tI _ _) fun a _ h => by cases h
theorem sortOk_ti {l : List (List Int)} (h : ∀ t ∈ l, t ≠ []) : sortOk (l.map tiD) = true := sortOk_map (fun a _ b _ => alike_tI _ _) fun a ha e => h a ha (by
    unfold tiD at e
    injection e with e
    exact List.map_eq_nil_iff.mp e)
theorem leD_int (a b : Int) : leD (.int a) (.int b) = leI a b := by
  unfold leD leI
  rw [ltD_int]
  by_cases h : b < a
  · rw [decide_eq_true h, decide_eq_false (by omega)]; rfl
  · rw [decide_eq_false h, decide_eq_true (by omega)]; rfl
theorem leD_ti (a b : List Int) : leD (tiD a) (tiD b) = leT a b := by unfold leD leT; rw [ltD_tI]
theorem leD_g (a b : Gst) : leD (gD a) (gD b) = leG a b := by rw [gD_ti, gD_ti, leD_ti]; rfl
@[simp] theorem ms_ints {l : List Int} : (l.map D.int).mergeSort leD = (l.mergeSort leI).map .int := (List.map_mergeSort (s := leD) fun a _ b _ => (leD_int a b).symm).symm
@[simp] theorem ms_gs {l : List Gst} : (l.map gD).mergeSort leD = (l.mergeSort leG).map gD := (List.map_mergeSort (s := leD) fun a _ b _ => (leD_g a b).symm).symm
@[simp] theorem ms_ti {l : List (List Int)} : (l.map tiD).mergeSort leD = (l.mergeSort leT).map tiD := (List.map_mergeSort (s := leD) fun a _ b _ => (leD_ti a b).symm).symm
theorem leT_trans (a b c : List Int) (h1 : leT a b = true) (h2 : leT b c = true) : leT a c = true := by
  simp only [leT, Bool.not_eq_true', decide_eq_false_iff_not] at *
  exact fun h => (List.le_trans (show a ≤ b from h1) (show b ≤ c from h2)) h
theorem leT_total (a b : List Int) : (leT a b || leT b a) = true := by
  simp only [leT, Bool.or_eq_true, Bool.not_eq_true', decide_eq_false_iff_not]
  by_cases h : b < a
  · exact .inr (List.lt_asymm h)
  · exact .inl h
theorem leG_trans (a b c : Gst) : leG a b = true → leG b c = true → leG a c = true := leT_trans _ _ _
theorem leG_total (a b : Gst) : (leG a b || leG b a) = true := leT_total _ _
theorem leG_anti {a b : Gst} (h1 : leG a b = true) (h2 : leG b a = true) : a = b := by
  simp only [leG, Bool.not_eq_true', decide_eq_false_iff_not] at *
  have := List.le_antisymm (show [a.1, a.2] ≤ [b.1, b.2] from h1) (show [b.1, b.2] ≤ [a.1, a.2] from h2)
  injection this with e1 e2
  injection e2 with e2
  exact Prod.ext e1 e2
/-- two ways with one end -/
theorem if_all {p : Prop} [Decidable p] {A B T : Prop} (ha : A) (hb : B) (h : B → T) : if p then T else A ∧ B := by
  split
  · exact h hb
  · exact ⟨ha, hb⟩
theorem if_all' {p : Prop} [Decidable p] {A B T : Prop} (ha : A) (hb : B) (h : B → T) : if p then A ∧ B else T := by
  split
  · exact ⟨ha, hb⟩
  · exact h hb
theorem get_range {n i a : Nat} (h : (List.range n)[i]? = some a) : a = i ∧ i < n := by
  obtain ⟨h1, h2⟩ := List.getElem?_eq_some_iff.mp h
  simp at h1 h2
  exact ⟨h2.symm, h1⟩
/-- a list that grows by one item -/
theorem get_app {α : Type} {l : List α} {x s : α} {j : Nat} (e : (l ++ [x])[j]? = some s) : (j < l.length ∧ l[j]? = some s) ∨ (j = l.length ∧ s = x) := by
  by_cases hj : j < l.length
  · rw [List.getElem?_append_left hj] at e
    exact .inl ⟨hj, e⟩
  · rw [List.getElem?_append_right (by omega)] at e
    have : j - l.length = 0 := by
      have := (List.getElem?_eq_some_iff.mp e).1
      simp at this
      omega
    rw [this] at e
    simp at e
    exact .inr ⟨by omega, e.symm⟩
/-- a comprehension that takes some items, ascending -/
theorem comp_sub {α : Type} {f : D → (Option D → Prop) → Prop} {l : List α} {e : α → D} {Q : List D → Prop} (P : α → Prop) (h : ∀ a ∈ l, ∀ k : Option D → Prop, (P a → k (some (e a))) → k none → f (e a) k) (q : ∀ bs : List α, bs.Sublist l → (∀ b ∈ bs, P b) → Q (bs.map e)) : pcomp f (l.map e) [] Q := by
  refine comp_inv (fun i acc => ∃ bs : List α, acc = bs.map e ∧ bs.Sublist (l.take i) ∧ ∀ b ∈ bs, P b) ⟨[], rfl, by simp, by simp⟩ (fun i d acc k e1 h1 h2 h3 => ?_) fun acc h1 => ?_
  · rw [List.getElem?_map] at e1
    obtain ⟨a, ea, rfl⟩ := Option.map_eq_some_iff.mp e1
    obtain ⟨bs, rfl, hl, hb⟩ := h1
    have et : l.take (i + 1) = l.take i ++ [a] := by rw [List.take_add_one, ea]; rfl
    refine h a (List.mem_of_getElem? ea) k (fun pb => h2 _ ⟨bs ++ [a], by simp, by rw [et]; exact hl.append (List.Sublist.refl _), fun c hc => by
      rcases List.mem_append.mp hc with hc | hc
      · exact hb c hc
      · rw [List.mem_singleton] at hc; subst hc; exact pb⟩) (h3 ⟨bs, rfl, by rw [et]; exact hl.trans (List.sublist_append_left _ _), hb⟩)
  · obtain ⟨bs, rfl, hl, hb⟩ := h1
    rw [List.length_map, List.take_length] at hl
    exact q bs hl hb
theorem map_nat (l : List Nat) : (l.map fun (k : Nat) => D.int k) = (l.map fun (k : Nat) => (k : Int)).map .int := by rw [List.map_map]; rfl
/-- some numbers under n, ascending -/
theorem sub_range {n : Nat} {bs : List Nat} (h : bs.Sublist (List.range n)) : (bs.map fun (k : Nat) => (k : Int)).Pairwise (· < ·) ∧ (∀ a ∈ bs.map fun (k : Nat) => (k : Int), 0 ≤ a ∧ a < n) ∧ bs.length ≤ n := by
  refine ⟨?_, fun a ha => ?_, by simpa using h.length_le⟩
  · rw [List.pairwise_map]
    exact (List.pairwise_lt_range.sublist h).imp fun h => by omega
  · obtain ⟨k, hk, rfl⟩ := List.mem_map.mp ha
    have := List.mem_range.mp (h.subset hk)
    omega
/-! ### helpers -/
section
variable {TP : PTab} {Γ : Str → Option D} {n : Nat} {Q : R → Prop} {Y : XP}
theorem pick_new (hP : TP "_law_pick" = some p__law_pick) {ds : List D} (h0 : ds ≠ []) (h1 : ds.length < 1073741824) (h : ∀ d ∈ ds, Q (toR d)) : callP TP Γ (n + 2) "_law_pick" [.val (.ref 0), .newL ds] Q Y := by
  refine pcall hP (by decide) (by decide) rfl ?_
  have h2 : 0 < ds.length := List.length_pos_iff.mpr h0
  simp [p__law_pick]
  refine ⟨⟨by omega, by omega⟩, fun i i0 i1 => ?_⟩
  rw [atI_ge i0, List.getElem?_eq_getElem (by omega)]
  exact h _ (List.getElem_mem _)
theorem pick_tup (hP : TP "_law_pick" = some p__law_pick) {ds : List D} (h0 : ds ≠ []) (h1 : ds.length < 1073741824) (h : ∀ d ∈ ds, Q (toR d)) : callP TP Γ (n + 2) "_law_pick" [.val (.ref 0), .val (.tup ds)] Q Y := by
  refine pcall hP (by decide) (by decide) rfl ?_
  have h2 : 0 < ds.length := List.length_pos_iff.mpr h0
  simp [p__law_pick]
  refine ⟨⟨by omega, by omega⟩, fun i i0 i1 => ?_⟩
  rw [atI_ge i0, List.getElem?_eq_getElem (by omega)]
  exact h _ (List.getElem_mem _)
theorem pick_ints (hP : TP "_law_pick" = some p__law_pick) {l : List Int} (h0 : l ≠ []) (h1 : l.length < 1073741824) (h : ∀ i ∈ l, Q (.val (.int i))) : callP TP Γ (n + 2) "_law_pick" [.val (.ref 0), .newL (l.map .int)] Q Y :=
  pick_new hP (by simpa using h0) (by simpa using h1) fun d hd => by
    obtain ⟨i, hi, rfl⟩ := List.mem_map.mp hd
    exact h i hi
theorem pick_intsT (hP : TP "_law_pick" = some p__law_pick) {l : List Int} (h0 : l ≠ []) (h1 : l.length < 1073741824) (h : ∀ i ∈ l, Q (.val (.int i))) : callP TP Γ (n + 2) "_law_pick" [.val (.ref 0), .val (.tup (l.map .int))] Q Y :=
  pick_tup hP (by simpa using h0) (by simpa using h1) fun d hd => by
    obtain ⟨i, hi, rfl⟩ := List.mem_map.mp hd
    exact h i hi
/-- what is data is the same as itself -/
theorem same_self (hS : TP "_law_same" = some p__law_same) : ∀ (k : Nat) (a : D) (n : Nat) (Q : R → Prop) (Y : XP), D.dok k a = true → k < n → Q (.val (.bl true)) → callP TP Γ n "_law_same" [.val a, .val a] Q Y := by
  intro k
  induction k with
  | zero =>
    intro a n Q Y h hn q
    obtain ⟨n, rfl⟩ : ∃ e, n = e + 1 := ⟨n - 1, by omega⟩
    refine pcall hS (by decide) (by decide) rfl ?_
    cases a with
    | tup xs => simp [D.dok] at h
    | ref n => simp [D.dok] at h
    | frl n => simp [D.dok] at h
    | non => simp [p__law_same, q]
    | bl b => cases b <;> simp [p__law_same, q, cmpR, isR, eqR]
    | int i => simp [p__law_same, q]
    | str i => simp [p__law_same, q, cmpR, isR, eqR]
  | succ k ih =>
    intro a n Q Y h hn q
    obtain ⟨n, rfl⟩ : ∃ e, n = e + 1 := ⟨n - 1, by omega⟩
    refine pcall hS (by decide) (by decide) rfl ?_
    cases a with
    | tup xs =>
      rw [D.dok, List.all_eq_true] at h
      simp [p__law_same, R.isTup]
      refine for_inv (fun i ρ => ρ = [some (.fz, .val (.tup xs)), some (.fz, .val (.tup xs)), none, none]) rfl (fun i d ρ nx e h1 h2 => ?_) fun ρ h1 => ?_
      · subst h1
        rw [List.getElem?_map] at e
        obtain ⟨p, hp, rfl⟩ := Option.map_eq_some_iff.mp e
        rw [List.getElem?_zip_eq_some] at hp
        have e2 : p.1 = p.2 := Option.some.inj (hp.1.symm.trans hp.2)
        have hm : p.1 ∈ xs := List.mem_of_getElem? hp.1
        have e3 : toR p.1 = .val p.1 := toR_fl (dok_fl _ _ (h _ hm))
        simp [pbody, ← e2, e3]
        exact ih p.1 n _ _ (h _ hm) (by omega) (by simp; exact h2 _ rfl)
      · subst h1
        simpa using q
    | ref n => simp [D.dok] at h
    | frl n => simp [D.dok] at h
    | non => simp [p__law_same, q]
    | bl b => cases b <;> simp [p__law_same, q, cmpR, isR, eqR]
    | int i => simp [p__law_same, q]
    | str i => simp [p__law_same, q, cmpR, isR, eqR]
variable {seats : List Int} {st : List Stg} {s : List (List Gst)}
theorem wanted_p (hT : TP "wanted_place" = some p_wanted_place) (hO : Γ "OUT" = some (.int (-1))) {g : Gst} (hg : g.2 = -1 ∨ 0 ≤ g.2 ∧ g.2 < st.length) :
    callP TP Γ (n + 1) "wanted_place" [.val (hD seats st), .val (gD g)] Q Y = Q (.val (optD (wO st g.2))) := by
  rw [pcall_eq hT (by decide) (by decide) rfl]
  by_cases h : g.2 = -1
  · simp [p_wanted_place, gD, pe_glob hO, h, wO]
  · have hr := hg.resolve_left h
    simp [p_wanted_place, gD, hD, pe_glob hO, h, wO, st_at hr.1 hr.2, stD]
theorem room_p (hT : TP "has_room" = some p_has_room) (ok : Sok seats st s) {p : Int} (h0 : 0 ≤ p) (h1 : p < s.length) :
    callP TP Γ (n + 1) "has_room" [.val (hD seats st), .val (sD s), .val (.int p)] Q Y = Q (.val (.bl (decide (((row s p).length : Int) < seat seats p)))) := by
  rw [pcall_eq hT (by decide) (by decide) rfl]
  simp [p_has_room, hD, sD, row_at h0 h1, rowD, seat_at (seats := seats) h0 (by rw [← ok.len]; exact h1)]
end
end LK

set_option Elab.async false
set_option linter.all false
set_option autoImplicit false
set_option maxRecDepth 100000
set_option maxHeartbeats 2000000
/-! PGenB: houses and stands of k15 to k25. -/
namespace LK
open PySem
def p_houseB : PFn :=
  ⟨2, 14, .cons [] (.setD [false, false] [2, 3] (.cons (.bin .add (.int 2) (.call "_law_take" (.cons (.var 0) (.cons (.bin .sub (.var 1) (.int 1)) (.nil))) (.nil) [])) (.cons (.call "_law_take" (.cons (.var 0) (.cons (.int 4) (.nil))) (.nil) []) (.nil))))
    (.cons [] (.set 4 (.seq .tuple (.comp (.bin .add (.int 1) (.call "_law_take" (.cons (.var 0) (.cons (.idx (.lst (.cons (.int 1) (.cons (.int 2) (.cons (.int 3) (.cons (.int 6) (.nil)))))) (.var 3)) (.nil))) (.nil) [])) (.one 5) (.rng1 (.var 2)) (.nil))))
    (.cons [] (.set 6 (.min2 (.int 24) (.bin .add (.var 2) (.call "_law_pick" (.cons (.var 0) (.cons (.lst (.cons (.int 0) (.cons (.int 2) (.cons (.int 5) (.cons (.int 8) (.cons (.int 20) (.nil))))))) (.nil))) (.nil) []))))
    (.cons [] (.set 7 (.comp (.ite (.and (.cmp .lt (.var 8) (.var 2)) (.cmp .ne (.var 3) (.int 2))) (.var 8) (.call "_law_take" (.cons (.var 0) (.cons (.var 2) (.nil))) (.nil) [])) (.one 8) (.rng1 (.var 6)) (.nil)))
    (.cons [] (.setD [false, true] [9, 10] (.cons (.call "_law_pick" (.cons (.var 0) (.cons (.lst (.cons (.int 2) (.cons (.int 5) (.cons (.int 20) (.cons (.int 60) (.nil)))))) (.nil))) (.nil) []) (.cons (.lst (.nil)) (.nil))))
    (.cons [] (.for_ [8, 11, 12] (.one 8) (.rng1 (.var 6))
    (.cons [] (.set 11 (.bin .add (.int 1) (.call "_law_take" (.cons (.var 0) (.cons (.int 3) (.nil))) (.nil) [])))
    (.cons [] (.set 12 (.comp (.var 13) (.one 13) (.rng1 (.var 6)) (.cons (.and (.cmp .ne (.idx (.var 7) (.var 13)) (.idx (.var 7) (.var 8))) (.cmp .lt (.call "_law_take" (.cons (.var 0) (.cons (.var 6) (.nil))) (.nil) []) (.var 11))) (.nil))))
    (.cons [] (.ite (.or (.cmp .eq (.len (.var 12)) (.int 0)) (.cmp .eq (.call "_law_take" (.cons (.var 0) (.cons (.var 9) (.nil))) (.nil) []) (.int 0)))
    (.cons [] (.set 12 (.bin .add (.lst (.cons (.bin .sub (.int 0) (.int 1)) (.nil))) (.var 12)))
    (.nil))
    (.nil))
    (.cons [] (.app 10 (.tup (.cons (.idx (.var 7) (.var 8)) (.cons (.seq .tuple (.var 12)) (.nil)))))
    (.nil))))))
    (.cons [] (.ret (.tup (.cons (.var 4) (.cons (.seq .tuple (.var 10)) (.nil)))))
    (.nil)))))))⟩
def p_standB : PFn :=
  ⟨3, 11, .cons [] (.setD [false, true] [3, 4] (.cons (.int 40) (.cons (.lst (.nil)) (.nil))))
    (.cons [] (.for_ [5, 6, 7, 8, 9, 10] (.one 5) (.rng1 (.len (.idx (.var 1) (.int 0))))
    (.cons [] (.set 6 (.comp (.var 7) (.one 7) (.rng1 (.len (.idx (.var 1) (.int 1)))) (.cons (.cmp .eq (.idx (.idx (.idx (.var 1) (.int 1)) (.var 7)) (.int 0)) (.var 5)) (.nil))))
    (.cons [] (.set 8 (.ite (.cmp .lt (.call "_law_take" (.cons (.var 0) (.cons (.int 5) (.nil))) (.nil) []) (.var 2)) (.idx (.idx (.var 1) (.int 0)) (.var 5)) (.call "_law_take" (.cons (.var 0) (.cons (.bin .add (.idx (.idx (.var 1) (.int 0)) (.var 5)) (.int 1)) (.nil))) (.nil) [])))
    (.cons [] (.setM 9 (.lst (.nil)))
    (.cons [] (.for_ [7, 10] (.one 10) (.rng1 (.ite (.cmp .gt (.len (.var 6)) (.int 0)) (.min2 (.var 8) (.var 3)) (.int 0)))
    (.cons [] (.set 7 (.call "_law_pick" (.cons (.var 0) (.cons (.var 6) (.nil))) (.nil) []))
    (.cons [] (.app 9 (.tup (.cons (.var 7) (.cons (.call "_law_pick" (.cons (.var 0) (.cons (.idx (.idx (.idx (.var 1) (.int 1)) (.var 7)) (.int 1)) (.nil))) (.nil) []) (.nil)))))
    (.nil))))
    (.cons [] (.set 3 (.bin .sub (.var 3) (.len (.var 9))))
    (.cons [] (.app 4 (.seq .tuple (.seq .sorted (.var 9))))
    (.nil))))))))
    (.cons [] (.ret (.seq .tuple (.var 4)))
    (.nil)))⟩
section
variable {TP : PTab} {Γ : Str → Option D} {n : Nat} {Q : R → Prop} {Y : XP}
theorem houseB_p (hP : TP "_law_pick" = some p__law_pick) (hH : TP "_law_house" = some p_houseB) {most : Int} (hm : 2 ≤ most ∧ most ≤ 20) (q : ∀ seats st, Hok seats st → (2 ≤ seats.length ∧ seats.length ≤ most.toNat) → st.length ≤ 24 → (∀ x ∈ seats, x ≤ 6) → Q (.val (hD seats st))) :
    callP TP Γ (n + 3) "_law_house" [.val (.ref 0), .val (.int most)] Q Y := by
  refine pcall hH (by decide) (by decide) rfl ?_
  simp [p_houseB]
  refine ⟨by omega, fun i1 h10 h11 way h20 h21 => ⟨by unfold LIM; omega, by unfold LIM; omega, ?_⟩⟩
  have hw : ∃ w : Int, (0 < w ∧ w ≤ 6) ∧ L2.atI [D.int 1, D.int 2, D.int 3, D.int 6] way = some (.int w) := by
    have : way = 0 ∨ way = 1 ∨ way = 2 ∨ way = 3 := by omega
    rcases this with rfl | rfl | rfl | rfl
    · exact ⟨1, by omega, rfl⟩
    · exact ⟨2, by omega, rfl⟩
    · exact ⟨3, by omega, rfl⟩
    · exact ⟨6, by omega, rfl⟩
  obtain ⟨w, hw1, hw2⟩ := hw
  refine comp_all (β := Int) .int (fun a => 1 ≤ a ∧ a ≤ 6) (fun k _ K hK => ?_) fun seats hsl hse => ?_
  · simp [cbody, hw2]
    exact ⟨by omega, fun i h0 h1 => hK _ (by omega)⟩
  refine pick_ints (l := [0, 2, 5, 8, 20]) hP (by simp) (by simp) fun add hadd => ?_
  have hadd : 0 ≤ add ∧ add ≤ 20 := by simp at hadd; omega
  simp
  have hmany : 2 ≤ (if 2 + i1 + add < 24 then 2 + i1 + add else 24) ∧ (if 2 + i1 + add < 24 then 2 + i1 + add else 24) ≤ 24 := by split <;> omega
  generalize (if 2 + i1 + add < 24 then 2 + i1 + add else 24) = many at hmany ⊢
  refine ⟨by unfold LIM; omega, by unfold LIM; omega, ?_⟩
  simp at hsl
  refine comp_all (β := Int) .int (fun a => 0 ≤ a ∧ a < 2 + i1) (fun k _ K hK => ?_) fun spots hpl hsp => ?_
  · simp [cbody]
    have tk : ∀ i : Int, 0 ≤ i → i < 2 + i1 → K (some (.int i)) := fun i h0 h1 => hK i ⟨h0, h1⟩
    split
    · split
      · exact ⟨by omega, tk⟩
      · exact hK _ (by omega)
    · exact ⟨by omega, tk⟩
  refine pick_ints (l := [2, 5, 20, 60]) hP (by simp) (by simp) fun outs ho => ?_
  have ho : 2 ≤ outs ∧ outs ≤ 60 := by simp at ho; omega
  refine ⟨by unfold LIM; omega, ?_⟩
  simp at hpl
  have spa : ∀ k : Int, 0 ≤ k → k < many → L2.atI (spots.map D.int) k = some (.int (seat spots k)) := fun k h0 h1 => seat_at h0 (by omega)
  have spm : ∀ k : Int, 0 ≤ k → k < many → 0 ≤ seat spots k ∧ seat spots k < 2 + i1 := fun k h0 h1 => hsp _ (seat_mem h0 (by omega))
  refine for_st (l := List.range many.toNat) (e := fun (k : Nat) => D.int k) (fun sts : List Stg => [some (.fz, .val (.ref 0)), some (.fz, .val (.int most)), some (.fz, .val (.int (2 + i1))), some (.fz, .val (.int way)), some (.fz, .val (.tup (seats.map .int))), none, some (.fz, .val (.int many)), some (.fz, .newL (spots.map .int)), none, some (.fz, .val (.int outs)), some (.ow, .newL (sts.map stD)), none, none, none])
    (fun i sts => sts.length = i ∧ ∀ (j : Nat) (s : Stg), sts[j]? = some s → s.1 = seat spots j ∧ s.2.length ≤ 1001 ∧ s.2 ≠ [] ∧ s.2.Pairwise (· < ·) ∧ ∀ a ∈ s.2, a = -1 ∨ (0 ≤ a ∧ a < many) ∧ seat spots a ≠ s.1) (s0 := []) ⟨rfl, by simp⟩ (fun i a sts nx ea hI hnx => ?_) (fun sts hI => ?_)
  · obtain ⟨hlen, hst⟩ := hI
    have hi : a = i ∧ i < many.toNat := by
      have := (List.getElem?_eq_some_iff.mp ea)
      obtain ⟨h1, h2⟩ := this
      simp at h1 h2
      exact ⟨h2.symm, by omega⟩
    obtain ⟨rfl, hi⟩ := hi
    simp [pbody]
    intro much hu0 hu1
    refine ⟨by unfold LIM; omega, by unfold LIM; omega, ?_⟩
    refine comp_sub (l := List.range many.toNat) (e := fun (k : Nat) => D.int k) (fun b => seat spots b ≠ seat spots a) (fun b hb K h1 h2 => ?_) fun bs hbs hb => ?_
    · have hb' := List.mem_range.mp hb
      simp [cbody, spa b (by omega) (by omega), spa a (by omega) (by omega)]
      split
      · exact h2
      · rename_i hne
        refine ⟨by omega, fun i _ _ => ?_⟩
        split
        · exact h1 hne
        · exact h2
    · rw [map_nat]
      obtain ⟨g1, g2, g3⟩ := sub_range hbs
      have g4 : ∀ x ∈ bs.map fun (k : Nat) => (k : Int), seat spots x ≠ seat spots a := fun x hx => by
        obtain ⟨k, hk, rfl⟩ := List.mem_map.mp hx
        exact hb k hk
      have g5 : (bs.map fun (k : Nat) => (k : Int)).length ≤ 24 := by rw [List.length_map]; omega
      generalize (bs.map fun (k : Nat) => (k : Int)) = l at g1 g2 g4 g5
      have fin : ∀ l' : List Int, l'.length ≤ 1001 → l' ≠ [] → l'.Pairwise (· < ·) → (∀ x ∈ l', x = -1 ∨ (0 ≤ x ∧ x < many) ∧ seat spots x ≠ seat spots a) → nx [some (.fz, .val (.ref 0)), some (.fz, .val (.int most)), some (.fz, .val (.int (2 + i1))), some (.fz, .val (.int way)), some (.fz, .val (.tup (seats.map .int))), none, some (.fz, .val (.int many)), some (.fz, .newL (spots.map .int)), some (.fz, .val (.int a)), some (.fz, .val (.int outs)), some (.ow, .newL (sts.map stD ++ [.tup [.int (seat spots a), .tup (l'.map .int)]])), some (.fz, .val (.int (1 + much))), some (.fz, .newL (l'.map .int)), none] := fun l' h1 h2 h3 h4 => by
        refine hnx (sts ++ [(seat spots a, l')]) _ ⟨by simp [hlen], fun j s e => ?_⟩ (by simp [stD])
        by_cases hj : j < sts.length
        · rw [List.getElem?_append_left hj] at e
          exact hst j s e
        · rw [List.getElem?_append_right (by omega)] at e
          have : j - sts.length = 0 := by
            have := (List.getElem?_eq_some_iff.mp e).1
            simp at this
            omega
          rw [this] at e
          simp at e
          subst e
          have : j = a := by omega
          subst this
          exact ⟨rfl, h1, h2, h3, h4⟩
      have add1 : l.Pairwise (· < ·) → (-1 :: l).Pairwise (· < ·) := fun h => List.pairwise_cons.mpr ⟨fun x hx => by have := (g2 x hx).1; omega, h⟩
      have f1 : sts.length < LIM := by unfold LIM; omega
      have f2 : 1 + l.length ≤ LIM := by unfold LIM; omega
      have f3 := fin (-1 :: l) (by simp; omega) (by simp) (add1 g1) (fun x hx => by
        rcases List.mem_cons.mp hx with h | h
        · exact .inl h
        · exact .inr ⟨by have := g2 x h; omega, g4 x h⟩)
      simp [spa a (by omega) (by omega), f1, f2]
      split
      · rename_i hl
        rw [hl] at f3
        simpa [hl] using f3
      · rename_i hl
        refine ⟨by omega, fun z _ _ => ?_⟩
        split
        · simpa using f3
        · exact fin l (by omega) hl g1 fun x hx => .inr ⟨by have := g2 x hx; omega, g4 x hx⟩
  · obtain ⟨hlen, hst⟩ := hI
    simp at hlen
    simp
    have hmem : ∀ s ∈ sts, ∃ j : Nat, j < sts.length ∧ sts[j]? = some s := fun s hs => by
      obtain ⟨j, hj⟩ := List.mem_iff_getElem?.mp hs
      exact ⟨j, (List.getElem?_eq_some_iff.mp hj).1, hj⟩
    refine q seats sts ⟨by omega, by omega, fun x hx => by have := hse x hx; omega, fun s hs => ?_, fun s hs => ?_, fun s hs => ?_, fun s hs a ha hne => ?_⟩ (by omega) (by omega) (fun x hx => (hse x hx).2)
    · obtain ⟨j, hj, e⟩ := hmem s hs
      have h1 := (hst j s e).1
      have h2 := spm j (by omega) (by omega)
      rw [h1]
      omega
    · obtain ⟨j, hj, e⟩ := hmem s hs
      obtain ⟨_, h2, h3, _, h5⟩ := hst j s e
      exact ⟨h2, h3, fun a ha => (h5 a ha).imp_right fun h => by have := h.1; omega⟩
    · obtain ⟨j, hj, e⟩ := hmem s hs
      exact (hst j s e).2.2.2.1
    · obtain ⟨j, hj, e⟩ := hmem s hs
      obtain ⟨⟨a0, a1⟩, h6⟩ := ((hst j s e).2.2.2.2 a ha).resolve_left hne
      have e2 : sts[a.toNat]? = some (stg sts a) := by
        unfold stg
        rw [List.getD_eq_getElem?_getD, List.getElem?_eq_getElem (by omega)]
        rfl
      have h7 := (hst a.toNat _ e2).1
      rw [h7]
      have : ((a.toNat : Nat) : Int) = a := by omega
      rw [this]
      exact h6
theorem standB_p (hP : TP "_law_pick" = some p__law_pick) (hS : TP "_law_stand" = some p_standB) {seats : List Int} {st : List Stg} (hk : Hok seats st) {crowd : Int} (q : ∀ s, Sok seats st s → Q (.val (sD s))) :
    callP TP Γ (n + 3) "_law_stand" [.val (.ref 0), .val (hD seats st), .val (.int crowd)] Q Y := by
  refine pcall hS (by decide) (by decide) rfl ?_
  have hls := hk.ls
  have hlst := hk.lst
  simp [p_standB, hD]
  refine ⟨by unfold LIM; omega, ?_⟩
  refine for_st (l := List.range seats.length) (e := fun (k : Nat) => D.int k) (fun p : Int × List (List Gst) => [some (.fz, .val (.ref 0)), some (.fz, .val (.tup [.tup (seats.map .int), .tup (st.map stD)])), some (.fz, .val (.int crowd)), some (.fz, .val (.int p.1)), some (.ow, .newL (p.2.map rowD)), none, none, none, none, none, none])
    (fun i p => (0 ≤ p.1 ∧ p.1 ≤ 40) ∧ p.2.length = i ∧ ∀ (j : Nat) (r : List Gst), p.2[j]? = some r → (r.length : Int) ≤ seat seats j ∧ (∀ g ∈ r, (0 ≤ g.1 ∧ g.1 < st.length) ∧ (stg st g.1).1 = j ∧ g.2 ∈ (stg st g.1).2) ∧ r.Pairwise fun a b => leG a b = true) (s0 := (40, [])) ⟨by omega, rfl, by simp⟩ (fun i a p nx ea hI hnx => ?_) (fun p hI => ?_)
  · obtain ⟨left, rows⟩ := p
    obtain ⟨hleft, hlen, hrow⟩ := hI
    obtain ⟨rfl, hi⟩ := get_range ea
    dsimp only at hleft hlen hrow
    have hsa := hk.seat _ (seat_mem (seats := seats) (a := a) (by omega) (by omega))
    simp [pbody]
    refine ⟨by unfold LIM; omega, ?_⟩
    refine comp_filter (l := List.range st.length) (e := fun (k : Nat) => D.int k) (fun k => (stg st k).1 = a) (fun k hk' K h1 h2 => ?_) ?_
    · have := List.mem_range.mp hk'
      simp [cbody, st_at (st := st) (a := k) (by omega) (by omega), stD]
      split
      · exact h1 (by assumption)
      · exact h2 (by assumption)
    · have hsm : ∀ k ∈ ((List.range st.length).filter (fun (k : Nat) => decide ((stg st k).1 = a))).map fun (k : Nat) => (k : Int), (0 ≤ k ∧ k < st.length) ∧ (stg st k).1 = a := fun k hk' => by
        obtain ⟨m, hm, rfl⟩ := List.mem_map.mp hk'
        rw [List.mem_filter] at hm
        have := List.mem_range.mp hm.1
        exact ⟨by omega, by simpa using hm.2⟩
      have hsl : (((List.range st.length).filter (fun (k : Nat) => decide ((stg st k).1 = a))).map fun (k : Nat) => (k : Int)).length ≤ 1000 := by
        rw [List.length_map]
        exact Nat.le_trans (List.length_filter_le _ _) (by simp; omega)
      rw [map_nat]
      generalize ((List.range st.length).filter (fun (k : Nat) => decide ((stg st k).1 = a))).map (fun (k : Nat) => (k : Int)) = here at hsm hsl
      intro z hz0 hz5
      have f1 : rows.length < LIM := by unfold LIM; omega
      have fin : ∀ gs : List Gst, (gs.length : Int) ≤ seat seats a → (gs.length : Int) ≤ left → (∀ g ∈ gs, (0 ≤ g.1 ∧ g.1 < st.length) ∧ (stg st g.1).1 = a ∧ g.2 ∈ (stg st g.1).2) → ∀ ρ' : PEnv, kill [5, 6, 7, 8, 9, 10] ρ' = [some (.fz, .val (.ref 0)), some (.fz, .val (.tup [.tup (seats.map .int), .tup (st.map stD)])), some (.fz, .val (.int crowd)), some (.fz, .val (.int (left - gs.length))), some (.ow, .newL (rows.map rowD ++ [.tup ((gs.mergeSort leG).map gD)])), none, none, none, none, none, none] → nx ρ' := fun gs h1 h2 h3 ρ' e => by
        refine hnx (left - gs.length, rows ++ [gs.mergeSort leG]) ρ' ⟨by dsimp only; omega, by simp [hlen], fun j r er => ?_⟩ (by rw [e]; simp [rowD])
        rcases get_app er with ⟨_, e2⟩ | ⟨rfl, rfl⟩
        · exact hrow j r e2
        · rw [hlen]
          refine ⟨by simpa using h1, fun g hg => h3 g (List.mem_mergeSort.mp hg), List.pairwise_mergeSort leG_trans leG_total _⟩
      simp [seat_at (seats := seats) (a := a) (by omega) (by omega)]
      refine if_all (by omega) (fun many hm0 hm1 => ?_) (fun h => h (seat seats a) (by omega) (by omega))
      split
      · rename_i hne
        have hmin : 0 ≤ (if left < many then left else many) ∧ (if left < many then left else many) ≤ left ∧ (if left < many then left else many) ≤ seat seats a := by split <;> omega
        generalize (if left < many then left else many) = turns at hmin
        refine ⟨by unfold LIM; omega, ?_⟩
        refine for_st (l := List.range turns.toNat) (e := fun (k : Nat) => D.int k) (fun gs : List Gst => [some (.fz, .val (.ref 0)), some (.fz, .val (.tup [.tup (seats.map .int), .tup (st.map stD)])), some (.fz, .val (.int crowd)), some (.fz, .val (.int left)), some (.ow, .newL (rows.map rowD)), some (.fz, .val (.int a)), some (.fz, .newL (here.map .int)), none, some (.fz, .val (.int many)), some (.ow, .newL (gs.map gD)), none])
          (fun i gs => gs.length = i ∧ ∀ g ∈ gs, (0 ≤ g.1 ∧ g.1 < st.length) ∧ (stg st g.1).1 = a ∧ g.2 ∈ (stg st g.1).2) (s0 := []) ⟨rfl, by simp⟩ (fun i b gs nx' eb hI2 hnx2 => ?_) (fun gs hI2 => ?_)
        · obtain ⟨hgl, hgs⟩ := hI2
          obtain ⟨rfl, hb⟩ := get_range eb
          have f2 : gs.length < LIM := by unfold LIM; omega
          simp [pbody]
          refine pick_ints hP (by intro h; rw [h] at hne; simp at hne) (by omega) fun g1 hg1 => ?_
          obtain ⟨⟨g10, g11⟩, g12⟩ := hsm g1 hg1
          have hnx1 := hk.nx _ (stg_mem g10 g11)
          simp [st_at (st := st) (a := g1) g10 g11, stD]
          refine pick_intsT hP hnx1.2.1 (by omega) fun g2 hg2 => ?_
          simp [f2]
          refine hnx2 (gs ++ [(g1, g2)]) _ ⟨by simp [hgl], fun g hg => ?_⟩ (by simp [gD])
          rcases List.mem_append.mp hg with hg | hg
          · exact hgs g hg
          · rw [List.mem_singleton] at hg
            subst hg
            exact ⟨⟨g10, g11⟩, g12, hg2⟩
        · obtain ⟨hgl, hgs⟩ := hI2
          simp at hgl
          simp [f1]
          exact fin gs (by omega) (by omega) hgs _ (by simp)
      · have := fin [] (by simp; omega) (by simp; omega) (by simp)
        simp [ploop, f1, sortOk, alikeAllD]
        exact this _ (by simp)
  · obtain ⟨left, rows⟩ := p
    obtain ⟨hleft, hlen, hrow⟩ := hI
    simp at hlen
    simp
    have hat : ∀ p : Int, 0 ≤ p → p < rows.length → rows[p.toNat]? = some (row rows p) := fun p h0 h1 => by
      unfold row
      rw [List.getD_eq_getElem?_getD, List.getElem?_eq_getElem (by omega)]
      rfl
    refine q rows ⟨hlen, fun p h0 h1 => ?_, fun p h0 h1 g hg => ?_, fun r hr => ?_⟩
    · have := (hrow _ _ (hat p h0 h1)).1
      have e : ((p.toNat : Nat) : Int) = p := by omega
      rw [e] at this
      exact this
    · have := (hrow _ _ (hat p h0 h1)).2.1 g hg
      have e : ((p.toNat : Nat) : Int) = p := by omega
      rw [e] at this
      exact this
    · obtain ⟨j, hj⟩ := List.mem_iff_getElem?.mp hr
      exact (hrow j r hj).2.2
end
end LK

set_option Elab.async false
set_option linter.all false
set_option autoImplicit false
set_option maxRecDepth 100000
set_option maxHeartbeats 2000000
/-! PStuck: stuck lots: the program's, the laws' own; _law_wants, _law_is_full, _law_peeled, _law_is_stuck, _law_lots, _law_reached. -/
namespace LK
open PySem
def p__law_wants : PFn :=
  ⟨2, 2, .cons [] (.ret (.ite (.cmp .lt (.idx (.var 1) (.int 1)) (.int 0)) (.non) (.idx (.idx (.idx (.var 0) (.int 1)) (.idx (.var 1) (.int 1))) (.int 0))))
    (.nil)⟩
def p__law_is_full : PFn :=
  ⟨3, 3, .cons [] (.ret (.cmp .eq (.len (.idx (.var 1) (.var 2))) (.idx (.idx (.var 0) (.int 0)) (.var 2))))
    (.nil)⟩
def p__law_peeled : PFn :=
  ⟨2, 7, .cons [] (.set 2 (.comp (.var 3) (.one 3) (.rng1 (.len (.var 1))) (.cons (.call "_law_is_full" (.cons (.var 0) (.cons (.var 1) (.cons (.var 3) (.nil)))) (.nil) []) (.nil))))
    (.cons [] (.for_ [3, 4, 5] (.one 4) (.rng1 (.bin .add (.len (.var 1)) (.int 1)))
    (.cons [] (.setM 5 (.lst (.nil)))
    (.cons [] (.for_ [3] (.one 3) (.ex (.var 2))
    (.cons [] (.ite (.cmp .gt (.len (.comp (.var 6) (.one 6) (.ex (.idx (.var 1) (.var 3))) (.cons (.cmp .notin (.call "_law_wants" (.cons (.var 0) (.cons (.var 6) (.nil))) (.nil) []) (.var 2)) (.nil)))) (.int 0))
    (.cons [] (.app 5 (.var 3))
    (.nil))
    (.nil))
    (.nil)))
    (.cons [] (.set 2 (.comp (.var 3) (.one 3) (.ex (.var 2)) (.cons (.cmp .notin (.var 3) (.var 5)) (.nil))))
    (.cons [] (.ite (.cmp .eq (.len (.var 5)) (.int 0))
    (.cons [] (.brk)
    (.nil))
    (.nil))
    (.nil))))))
    (.cons [] (.ret (.seq .tuple (.var 2)))
    (.nil)))⟩
def p__law_is_stuck : PFn :=
  ⟨3, 5, .cons [] (.for_ [3] (.one 3) (.ex (.var 2))
    (.cons [] (.ite (.not (.call "_law_is_full" (.cons (.var 0) (.cons (.var 1) (.cons (.var 3) (.nil)))) (.nil) []))
    (.cons [] (.ret (.bl false))
    (.nil))
    (.nil))
    (.cons [] (.ite (.cmp .gt (.len (.comp (.var 4) (.one 4) (.ex (.idx (.var 1) (.var 3))) (.cons (.cmp .notin (.call "_law_wants" (.cons (.var 0) (.cons (.var 4) (.nil))) (.nil) []) (.var 2)) (.nil)))) (.int 0))
    (.cons [] (.ret (.bl false))
    (.nil))
    (.nil))
    (.nil))))
    (.cons [] (.ret (.cmp .gt (.len (.var 2)) (.int 0)))
    (.nil))⟩
def p__law_lots : PFn :=
  ⟨2, 7, .cons [] (.setD [false, true] [2, 3] (.cons (.comp (.var 4) (.one 4) (.rng1 (.len (.var 1))) (.cons (.call "_law_is_full" (.cons (.var 0) (.cons (.var 1) (.cons (.var 4) (.nil)))) (.nil) []) (.nil))) (.cons (.lst (.nil)) (.nil))))
    (.cons [] (.set 5 (.lst (.cons (.tup (.nil)) (.nil))))
    (.cons [] (.for_ [4] (.one 4) (.ex (.var 2))
    (.cons [] (.set 5 (.bin .add (.var 5) (.comp (.bin .add (.var 6) (.tup (.cons (.var 4) (.nil)))) (.one 6) (.ex (.var 5)) (.nil))))
    (.nil)))
    (.cons [] (.for_ [6] (.one 6) (.ex (.var 5))
    (.cons [] (.ite (.call "_law_is_stuck" (.cons (.var 0) (.cons (.var 1) (.cons (.var 6) (.nil)))) (.nil) [])
    (.cons [] (.app 3 (.var 6))
    (.nil))
    (.nil))
    (.nil)))
    (.cons [] (.ret (.var 3))
    (.nil)))))⟩
def p_stuck_at : PFn :=
  ⟨3, 9, .cons [] (.setD [true, false] [3, 4] (.cons (.lst (.cons (.var 2) (.nil))) (.cons (.int 0) (.nil))))
    (.cons [] (.whl [5, 6, 8] (.cmp .lt (.var 4) (.len (.var 3)))
    (.cons [] (.set 5 (.idx (.var 3) (.var 4)))
    (.cons [] (.aug 4 .add (.int 1))
    (.cons [] (.set 6 (.comp (.call "wanted_place" (.cons (.var 0) (.cons (.var 7) (.nil))) (.nil) []) (.one 7) (.ex (.idx (.var 1) (.var 5))) (.nil)))
    (.cons [] (.ite (.or (.call "has_room" (.cons (.var 0) (.cons (.var 1) (.cons (.var 5) (.nil)))) (.nil) []) (.cmp .isin (.non) (.var 6)))
    (.cons [] (.ret (.tup (.nil)))
    (.nil))
    (.nil))
    (.cons [] (.for_ [8] (.one 8) (.ex (.var 6))
    (.cons [] (.ite (.cmp .notin (.var 8) (.var 3))
    (.cons [] (.app 3 (.var 8))
    (.nil))
    (.nil))
    (.nil)))
    (.nil)))))))
    (.cons [] (.ret (.seq .tuple (.seq .sorted (.var 3))))
    (.nil)))⟩
def p_stuck_lot : PFn :=
  ⟨2, 5, .cons [] (.setD [false, false] [2, 3] (.cons (.non) (.cons (.comp (.var 4) (.one 4) (.rng1 (.len (.var 1))) (.cons (.not (.call "has_room" (.cons (.var 0) (.cons (.var 1) (.cons (.var 4) (.nil)))) (.nil) [])) (.nil))) (.nil))))
    (.cons [] (.whl [] (.cmp .ne (.var 3) (.var 2))
    (.cons [] (.set 2 (.var 3))
    (.cons [] (.set 3 (.comp (.var 4) (.one 4) (.ex (.var 2)) (.cons (.call "are_held" (.cons (.var 0) (.cons (.var 1) (.cons (.var 4) (.cons (.var 2) (.nil))))) (.nil) []) (.nil))))
    (.nil))))
    (.cons [] (.ret (.seq .tuple (.var 2)))
    (.nil)))⟩
def p_are_held : PFn :=
  ⟨4, 5, .cons [] (.ret (.seq .all (.comp (.cmp .isin (.call "wanted_place" (.cons (.var 0) (.cons (.var 4) (.nil))) (.nil) []) (.var 3)) (.one 4) (.ex (.idx (.var 1) (.var 2))) (.nil))))
    (.nil)⟩
def p__law_reached : PFn :=
  ⟨3, 9, .cons [] (.set 3 (.lst (.cons (.var 2) (.nil))))
    (.cons [] (.for_ [4, 5, 6, 7, 8] (.one 4) (.rng1 (.len (.var 1)))
    (.cons [] (.setM 5 (.lst (.nil)))
    (.cons [] (.for_ [6, 7, 8] (.one 6) (.ex (.var 3))
    (.cons [] (.for_ [7, 8] (.one 7) (.ex (.idx (.var 1) (.var 6)))
    (.cons [] (.set 8 (.call "_law_wants" (.cons (.var 0) (.cons (.var 7) (.nil))) (.nil) []))
    (.cons [] (.ite (.cmp .is (.var 8) (.non))
    (.cons [] (.ret (.tup (.nil)))
    (.nil))
    (.nil))
    (.cons [] (.ite (.and (.cmp .notin (.var 8) (.var 3)) (.cmp .notin (.var 8) (.var 5)))
    (.cons [] (.app 5 (.var 8))
    (.nil))
    (.nil))
    (.nil)))))
    (.nil)))
    (.cons [] (.ite (.cmp .eq (.len (.var 5)) (.int 0))
    (.cons [] (.brk)
    (.nil))
    (.nil))
    (.cons [] (.set 3 (.bin .add (.var 3) (.var 5)))
    (.nil))))))
    (.cons [] (.ite (.cmp .gt (.len (.comp (.var 6) (.one 6) (.ex (.var 3)) (.cons (.not (.call "_law_is_full" (.cons (.var 0) (.cons (.var 1) (.cons (.var 6) (.nil)))) (.nil) [])) (.nil)))) (.int 0))
    (.cons [] (.ret (.tup (.nil)))
    (.nil))
    (.nil))
    (.cons [] (.ret (.seq .tuple (.seq .sorted (.var 3))))
    (.nil))))⟩
/-- as many guests as seats -/
def full (seats : List Int) (s : List (List Gst)) (p : Int) : Bool := decide (((row s p).length : Int) = seat seats p)
/-- each guest of a place wants a place of a lot -/
def inO (L : List Int) (o : Option Int) : Bool := match o with
  | some w => decide (w ∈ L)
  | none => false
def wantsIn (st : List Stg) (L : List Int) (r : List Gst) : Bool := r.all fun g => inO L (wO st g.2)
def heldB (seats : List Int) (st : List Stg) (s : List (List Gst)) (L : List Int) (p : Int) : Bool := full seats s p && wantsIn st L (row s p)
/-- places of a lot (perhaps none) that is stuck -/
def Clo (seats : List Int) (st : List Stg) (s : List (List Gst)) (L : List Int) : Prop := ∀ p ∈ L, (0 ≤ p ∧ p < s.length) ∧ heldB seats st s L p = true
def IsGreat (seats : List Int) (st : List Stg) (s : List (List Gst)) (l : List Int) : Prop := l.Pairwise (· < ·) ∧ Clo seats st s l ∧ ∀ L, Clo seats st s L → ∀ p ∈ L, p ∈ l
def IsLeast (seats : List Int) (st : List Stg) (s : List (List Gst)) (p : Int) (l : List Int) : Prop := (l ≠ [] → l.Pairwise (· < ·) ∧ p ∈ l ∧ Clo seats st s l) ∧ ∀ L, Clo seats st s L → p ∈ L → l ≠ [] ∧ ∀ q ∈ l, q ∈ L
section
variable {seats : List Int} {st : List Stg} {s : List (List Gst)} {L l l' : List Int} {p : Int}
theorem wantsIn_iff {r : List Gst} : wantsIn st L r = true ↔ ∀ g ∈ r, ∃ w ∈ L, wO st g.2 = some w := by
  unfold wantsIn
  rw [List.all_eq_true]
  constructor
  · intro h g hg
    have := h g hg
    unfold inO at this
    cases e : wO st g.2 with
    | none => rw [e] at this; cases this
    | some w => rw [e] at this; exact ⟨w, of_decide_eq_true this, rfl⟩
  · intro h g hg
    obtain ⟨w, hw, e⟩ := h g hg
    unfold inO
    rw [e]
    exact decide_eq_true hw
theorem held_iff : heldB seats st s L p = true ↔ full seats s p = true ∧ ∀ g ∈ row s p, ∃ w ∈ L, wO st g.2 = some w := by
  unfold heldB
  rw [Bool.and_eq_true, wantsIn_iff]
theorem held_mono (h : ∀ q ∈ L, q ∈ l) (q : heldB seats st s L p = true) : heldB seats st s l p = true := by
  rw [held_iff] at q ⊢
  exact ⟨q.1, fun g hg => let ⟨w, h1, h2⟩ := q.2 g hg; ⟨w, h w h1, h2⟩⟩
theorem great_unique (h : IsGreat seats st s l) (h' : IsGreat seats st s l') : l = l' :=
  asc_eq asym_int h.1 h'.1 fun t => ⟨fun m => h'.2.2 l h.2.1 t m, fun m => h.2.2 l' h'.2.1 t m⟩
theorem least_unique (h : IsLeast seats st s p l) (h' : IsLeast seats st s p l') : l = l' := by
  by_cases e : l = []
  · by_cases e' : l' = []
    · rw [e, e']
    · obtain ⟨_, h2, h3⟩ := h'.1 e'
      exact absurd e (h.2 l' h3 h2).1
  · obtain ⟨h1, h2, h3⟩ := h.1 e
    obtain ⟨g1, g2⟩ := h'.2 l h3 h2
    obtain ⟨h4, h5, h6⟩ := h'.1 g1
    exact asc_eq asym_int h1 h4 fun t => ⟨fun m => (h.2 l' h6 h5).2 t m, fun m => g2 t m⟩
theorem nodup_len : ∀ (n : Nat) {l : List Int}, l.Nodup → (∀ x ∈ l, 0 ≤ x ∧ x < n) → l.length ≤ n
  | 0, [], _, _ => Nat.le_refl _
  | 0, x :: l, _, h => by have := h x List.mem_cons_self; omega
  | n + 1, l, nd, h => by
    have h1 := nodup_len n (l := l.filter fun (x : Int) => decide (x < n)) (nd.sublist List.filter_sublist) fun x hx => by
      rw [List.mem_filter] at hx
      have := h x hx.1
      have := of_decide_eq_true hx.2
      omega
    have key : ∀ l : List Int, l.Nodup → (∀ x ∈ l, 0 ≤ x ∧ x < (n + 1 : Nat)) → l.length ≤ (l.filter fun (x : Int) => decide (x < n)).length + 1 := by
      intro l
      induction l with
      | nil => intro _ _; simp
      | cons x l ih =>
        intro nd h
        rw [List.nodup_cons] at nd
        have hx := h x List.mem_cons_self
        by_cases hn : x < n
        · rw [List.filter_cons_of_pos (by simpa using hn)]
          have := ih nd.2 fun y hy => h y (List.mem_cons_of_mem _ hy)
          simp
          omega
        · have e : x = n := by omega
          have : (l.filter fun (x : Int) => decide (x < n)) = l := List.filter_eq_self.mpr fun y hy => by
            have := h y (List.mem_cons_of_mem _ hy)
            have : y ≠ x := fun z => nd.1 (z ▸ hy)
            exact decide_eq_true (by omega)
          rw [List.filter_cons_of_neg (by simpa using hn), this]
          simp
    have := key l nd h
    omega
theorem asc_nodup (h : l.Pairwise (· < ·)) : l.Nodup := h.imp fun h => by omega
/-! ### the program's defs and the law's own -/
variable {TP : PTab} {Γ : Str → Option D} {n : Nat} {Q : R → Prop} {Y : XP}
theorem wants_p (hT : TP "_law_wants" = some p__law_wants) {g : Gst} (hg : g.2 = -1 ∨ 0 ≤ g.2 ∧ g.2 < st.length) :
    callP TP Γ (n + 1) "_law_wants" [.val (hD seats st), .val (gD g)] Q Y = Q (.val (optD (wO st g.2))) := by
  rw [pcall_eq hT (by decide) (by decide) rfl]
  by_cases h : g.2 = -1
  · simp [p__law_wants, gD, h, wO]
  · have hr := hg.resolve_left h
    have hn : ¬ g.2 < 0 := by omega
    simp [p__law_wants, gD, hD, h, hn, wO, st_at hr.1 hr.2, stD]
theorem full_p (hT : TP "_law_is_full" = some p__law_is_full) (ok : Sok seats st s) (h0 : 0 ≤ p) (h1 : p < s.length) :
    callP TP Γ (n + 1) "_law_is_full" [.val (hD seats st), .val (sD s), .val (.int p)] Q Y = Q (.val (.bl (full seats s p))) := by
  rw [pcall_eq hT (by decide) (by decide) rfl]
  simp [p__law_is_full, hD, sD, row_at h0 h1, rowD, seat_at (seats := seats) h0 (by rw [← ok.len]; exact h1), full]
theorem room_full (ok : Sok seats st s) (h0 : 0 ≤ p) (h1 : p < s.length) : decide (((row s p).length : Int) < seat seats p) = !full seats s p := by
  have := ok.row p h0 h1
  unfold full
  by_cases h : ((row s p).length : Int) = seat seats p
  · simp [h]
  · simp [h]; omega
theorem in_opts {o : Option Int} : cmpR .isin (.val (optD o)) (.newL (L.map .int)) [] = some (inO L o) := by
  rw [isin_new optD_pl0 (by simp)]
  cases o <;> simp [inO]
theorem notin_opts {o : Option Int} : cmpR .notin (.val (optD o)) (.newL (L.map .int)) [] = some (!inO L o) := by
  rw [notin_new optD_pl0 (by simp)]
  cases o <;> simp [inO]
theorem notin_optsT {o : Option Int} : cmpR .notin (.val (optD o)) (.val (.tup (L.map .int))) [] = some (!inO L o) := by
  rw [notin_tup optD_pl0 (by simp)]
  cases o <;> simp [inO]
theorem gone_len {r : List Gst} : (0 < ((r.filter fun g => decide (inO L (wO st g.2) = false)).map gD).length) ↔ wantsIn st L r = false := by
  rw [List.length_map]
  unfold wantsIn
  rw [← Bool.not_eq_true, List.all_eq_true]
  constructor
  · intro h h2
    have : (r.filter fun g => decide (inO L (wO st g.2) = false)) = [] := List.filter_eq_nil_iff.mpr fun g hg => by simp [h2 g hg]
    rw [this] at h
    simp at h
  · intro h
    have : (r.filter fun g => decide (inO L (wO st g.2) = false)) ≠ [] := fun e => h fun g hg => by
      have := List.filter_eq_nil_iff.mp e g hg
      simpa using this
    have := List.length_pos_iff.mpr this
    omega
/-- are_held -/
theorem held_p (hW : TP "wanted_place" = some p_wanted_place) (hH : TP "are_held" = some p_are_held) (hO : Γ "OUT" = some (.int (-1))) (hk : Hok seats st) (ok : Sok seats st s) (h0 : 0 ≤ p) (h1 : p < s.length) (q : Q (.val (.bl (wantsIn st L (row s p))))) :
    callP TP Γ (n + 2) "are_held" [.val (hD seats st), .val (sD s), .val (.int p), .newL (L.map .int)] Q Y := by
  refine pcall hH (by decide) (by decide) rfl ?_
  have hl := ok.row_le hk h0 h1
  have e : toR (rowD (row s p)) = .val (.tup ((row s p).map gD)) := rfl
  simp only [p_are_held]
  simp [sD, row_at h0 h1, rowD]
  refine ⟨by unfold LIM; omega, comp_map (l := row s p) (e := gD) (fun g => .bl (inO L (wO st g.2))) (fun g hg K hK => ?_) ?_⟩
  · simp [cbody, wanted_p hW hO (ok.nx hk h0 h1 hg), in_opts]
    exact hK
  · rw [s_all, bls_map]
    simp [wantsIn] at q ⊢
    exact q
theorem full_list : (List.range s.length).filter (fun (k : Nat) => decide (full seats s k = true)) = (List.range s.length).filter fun (k : Nat) => full seats s k := by simp
/-- all full places, ascending -/
def fulls (seats : List Int) (s : List (List Gst)) : List Int := ((List.range s.length).filter fun (k : Nat) => full seats s k).map fun (k : Nat) => (k : Int)
theorem fulls_eq : ((List.range s.length).filter fun (k : Nat) => decide (full seats s k = true)).map (fun (k : Nat) => D.int k) = (fulls seats s).map .int := by
  rw [full_list, map_nat]
  rfl
theorem mem_fulls : p ∈ fulls seats s ↔ (0 ≤ p ∧ p < s.length) ∧ full seats s p = true := by
  unfold fulls
  rw [List.mem_map]
  constructor
  · rintro ⟨k, hk, rfl⟩
    rw [List.mem_filter, List.mem_range] at hk
    exact ⟨by omega, hk.2⟩
  · rintro ⟨⟨h0, h1⟩, h2⟩
    obtain ⟨k, rfl⟩ := Int.eq_ofNat_of_zero_le h0
    exact ⟨k, by rw [List.mem_filter, List.mem_range]; exact ⟨by omega, h2⟩, rfl⟩
theorem asc_fulls : (fulls seats s).Pairwise (· < ·) := by
  unfold fulls
  rw [List.pairwise_map]
  exact (List.pairwise_lt_range.filter _).imp fun h => by omega
theorem len_fulls : (fulls seats s).length ≤ s.length := by
  unfold fulls
  rw [List.length_map]
  exact Nat.le_trans (List.length_filter_le _ _) (by simp)
theorem clo_fulls (h : Clo seats st s L) : ∀ q ∈ L, q ∈ fulls seats s := fun q hq => mem_fulls.mpr ⟨(h q hq).1, (held_iff.mp (h q hq).2).1⟩
/-- one turn of peeling -/
def peel (seats : List Int) (st : List Stg) (s : List (List Gst)) (l : List Int) : List Int := l.filter fun p => wantsIn st l (row s p)
theorem peel_len : (peel seats st s l).length ≤ l.length := List.length_filter_le _ _
theorem peel_eq (h : (peel seats st s l).length = l.length) : peel seats st s l = l := List.filter_sublist.eq_of_length h
theorem peel_keep (h : ∀ q ∈ L, q ∈ l) (hc : Clo seats st s L) : ∀ q ∈ L, q ∈ peel seats st s l := fun q hq => by
  unfold peel
  rw [List.mem_filter]
  have := held_mono h (hc q hq).2
  unfold heldB at this
  rw [Bool.and_eq_true] at this
  exact ⟨h q hq, this.2⟩
theorem great_of (h1 : l.Pairwise (· < ·)) (h2 : ∀ q ∈ l, q ∈ fulls seats s) (h3 : peel seats st s l = l) (h4 : ∀ L, Clo seats st s L → ∀ q ∈ L, q ∈ l) : IsGreat seats st s l := by
  refine ⟨h1, fun q hq => ?_, h4⟩
  obtain ⟨g1, g2⟩ := mem_fulls.mp (h2 q hq)
  refine ⟨g1, ?_⟩
  rw [← h3] at hq
  unfold peel at hq
  rw [List.mem_filter] at hq
  unfold heldB
  rw [g2, hq.2]
  rfl
theorem ne_ll {a b : List Int} : cmpR .ne (.newL (a.map .int)) (.newL (b.map .int)) [] = some (!decide (a = b)) := by
  show (eqR _ _ _).map _ = _
  rw [eqP_LL (by simp) (by simp)]
  simp only [Option.map_some, Option.some.injEq]
  congr 2
  rw [List.map_inj_right (fun x y h => by injection h)]
theorem ne_ln {a : List Int} : cmpR .ne (.newL (a.map .int)) (.val .non) [] = some true := by
  show (eqR _ _ _).map _ = _
  have : (a.map D.int).all (D.dok 60) = true := by
    rw [List.all_eq_true]
    intro x hx
    obtain ⟨i, _, rfl⟩ := List.mem_map.mp hx
    rfl
  simp only [eqR, viewOf, this]
  rfl
theorem stuck_lot_p (hW : TP "wanted_place" = some p_wanted_place) (hR : TP "has_room" = some p_has_room) (hH : TP "are_held" = some p_are_held) (hS : TP "stuck_lot" = some p_stuck_lot) (hO : Γ "OUT" = some (.int (-1))) (hk : Hok seats st) (ok : Sok seats st s) (q : ∀ l, IsGreat seats st s l → Q (.val (.tup (l.map .int)))) :
    callP TP Γ (n + 3) "stuck_lot" [.val (hD seats st), .val (sD s)] Q Y := by
  refine pcall hS (by decide) (by decide) rfl ?_
  have hls := hk.ls
  have hlen := ok.len
  simp [p_stuck_lot]
  have e1 : lenP (.val (sD s)) = some (s.length : Int) := by unfold sD; simp
  simp [e1]
  refine ⟨by unfold LIM; omega, ?_⟩
  refine comp_filter (l := List.range s.length) (e := fun (k : Nat) => D.int k) (fun k => full seats s k = true) (fun k hk' K h1 h2 => ?_) ?_
  · have := List.mem_range.mp hk'
    simp [cbody, room_p hR ok (p := k) (by omega) (by omega), room_full ok (p := (k : Int)) (by omega) (by omega)]
    split
    · exact h1 (by assumption)
    · exact h2 (by simp_all)
  rw [full_list, map_nat]
  refine whl_at (fun m ρ => ∃ (x : R) (l : List Int), ρ = [some (.fz, .val (hD seats st)), some (.fz, .val (sD s)), some (.fz, x), some (.fz, .newL (l.map .int)), none] ∧ (l.Pairwise (· < ·) ∧ (∀ q ∈ l, q ∈ fulls seats s) ∧ ∀ L, Clo seats st s L → ∀ q ∈ L, q ∈ l) ∧ ((x = .val .non ∧ m = 2 * l.length + 1) ∨ ∃ k : List Int, x = .newL (k.map .int) ∧ l = peel seats st s k ∧ m = 2 * l.length + (if l = k then 0 else 1))) (2 * (fulls seats s).length + 1) (by have := len_fulls (seats := seats) (s := s); omega) ⟨_, _, rfl, ⟨asc_fulls, fun q h => h, fun L hL => clo_fulls hL⟩, .inl ⟨rfl, rfl⟩⟩ (fun m ρ nx hI hnx => ?_)
  obtain ⟨x, l, rfl, ⟨h1, h2, h3⟩, hx⟩ := hI
  have hl : l.length ≤ 1000 := by
    have := nodup_len s.length (asc_nodup h1) fun x hx => (mem_fulls.mp (h2 x hx)).1
    omega
  have body : ∀ nx bk : PEnv → Prop, (nx [some (.fz, .val (hD seats st)), some (.fz, .val (sD s)), some (.fz, .newL (l.map .int)), some (.fz, .newL ((peel seats st s l).map .int)), none]) → wbody (callP TP Γ (n + 2)) Γ (.cons [] (.set 2 (.var 3)) (.cons [] (.set 3 (.comp (.var 4) (.one 4) (.ex (.var 2)) (.cons (.call "are_held" (.cons (.var 0) (.cons (.var 1) (.cons (.var 4) (.cons (.var 2) .nil)))) .nil []) .nil))) .nil)) Q (fun c d _ => Y c d) [some (.fz, .val (hD seats st)), some (.fz, .val (sD s)), some (.fz, x), some (.fz, .newL (l.map .int)), none] nx bk := fun nx bk h => by
    simp [wbody]
    refine ⟨by unfold LIM; omega, ?_⟩
    refine comp_filter (fun p => wantsIn st l (row s p) = true) (fun p hp K k1 k2 => ?_) ?_
    · obtain ⟨⟨g0, g1⟩, _⟩ := mem_fulls.mp (h2 p hp)
      simp [cbody]
      refine held_p hW hH hO hk ok g0 g1 ?_
      simp
      split
      · exact k1 (by assumption)
      · exact k2 (by assumption)
    · simpa [peel] using h
  have inv : ∃ (x : R) (k : List Int), [some (Tag.fz, R.val (hD seats st)), some (.fz, .val (sD s)), some (.fz, .newL (l.map .int)), some (.fz, .newL ((peel seats st s l).map .int)), none] = [some (.fz, .val (hD seats st)), some (.fz, .val (sD s)), some (.fz, x), some (.fz, .newL (k.map .int)), none] ∧ (k.Pairwise (· < ·) ∧ (∀ q ∈ k, q ∈ fulls seats s) ∧ ∀ L, Clo seats st s L → ∀ q ∈ L, q ∈ k) ∧ ((x = .val .non ∧ 2 * (peel seats st s l).length + (if peel seats st s l = l then 0 else 1) = 2 * k.length + 1) ∨ ∃ k' : List Int, x = .newL (k'.map .int) ∧ k = peel seats st s k' ∧ 2 * (peel seats st s l).length + (if peel seats st s l = l then 0 else 1) = 2 * k.length + (if k = k' then 0 else 1)) :=
    ⟨_, _, rfl, ⟨h1.sublist List.filter_sublist, fun q hq => h2 q (List.mem_filter.mp (show q ∈ List.filter _ l from hq)).1, fun L hL => peel_keep (h3 L hL) hL⟩, .inr ⟨l, rfl, rfl, rfl⟩⟩
  have hm : ∀ m0, m0 ≥ 2 * l.length + 1 → 2 * (peel seats st s l).length + (if peel seats st s l = l then 0 else 1) < m0 := fun m0 h => by
    have := peel_len (seats := seats) (st := st) (s := s) (l := l)
    split
    · omega
    · rename_i hne
      have : (peel seats st s l).length ≠ l.length := fun e => hne (peel_eq e)
      omega
  rcases hx with ⟨rfl, hm0⟩ | ⟨k, rfl, hlk, hm0⟩
  · simp [wcond, ne_ln]
    exact body _ _ (hnx _ _ (hm m (by omega)) inv)
  · simp [wcond, ne_ll]
    split
    · rename_i e
      subst e
      exact q l (great_of h1 h2 hlk.symm h3)
    · rename_i e
      rw [if_neg e] at hm0
      exact body _ _ (hnx _ _ (hm m (by omega)) inv)
theorem peeled_p (hW : TP "_law_wants" = some p__law_wants) (hF : TP "_law_is_full" = some p__law_is_full) (hS : TP "_law_peeled" = some p__law_peeled) (hk : Hok seats st) (ok : Sok seats st s) (q : ∀ l, IsGreat seats st s l → Q (.val (.tup (l.map .int)))) :
    callP TP Γ (n + 3) "_law_peeled" [.val (hD seats st), .val (sD s)] Q Y := by
  refine pcall hS (by decide) (by decide) rfl ?_
  have hls := hk.ls
  have hlen := ok.len
  have e1 : lenP (.val (sD s)) = some (s.length : Int) := by unfold sD; simp
  simp [p__law_peeled, e1]
  refine ⟨by unfold LIM; omega, ?_⟩
  refine comp_filter (l := List.range s.length) (e := fun (k : Nat) => D.int k) (fun k => full seats s k = true) (fun k hk' K h1 h2 => ?_) ?_
  · have := List.mem_range.mp hk'
    simp [cbody, full_p hF ok (p := k) (by omega) (by omega)]
    split
    · exact h1 (by assumption)
    · exact h2 (by simp_all)
  rw [fulls_eq]
  refine ⟨by unfold LIM; omega, ?_⟩
  refine for_st (l := List.range (s.length + 1)) (e := fun (k : Nat) => D.int k) (fun l : List Int => [some (.fz, .val (hD seats st)), some (.fz, .val (sD s)), some (.fz, .newL (l.map .int)), none, none, none, none]) (fun i l => l.length + i ≤ s.length ∧ l.Pairwise (· < ·) ∧ (∀ q ∈ l, q ∈ fulls seats s) ∧ ∀ L, Clo seats st s L → ∀ q ∈ L, q ∈ l) (s0 := fulls seats s) ⟨len_fulls, asc_fulls, fun q h => h, fun L hL => clo_fulls hL⟩ (fun i a l nx ea hI hnx => ?_) (fun l hI => ?_)
  · obtain ⟨h0, h1, h2, h3⟩ := hI
    simp [pbody]
    have hl : l.length ≤ 1000 := by omega
    refine for_st (l := l) (e := D.int) (fun g : List Int => [some (.fz, .val (hD seats st)), some (.fz, .val (sD s)), some (.fz, .newL (l.map .int)), none, some (.fz, .val (.int a)), some (.ow, .newL (g.map .int)), none]) (fun i g => g = (l.take i).filter fun p => !wantsIn st l (row s p)) (s0 := []) (by simp) (fun j p g nx' ep hI2 hnx2 => ?_) (fun g hI2 => ?_)
    · have hp := List.mem_of_getElem? ep
      obtain ⟨⟨g0, g1⟩, _⟩ := mem_fulls.mp (h2 p hp)
      have hrl := ok.row_le hk g0 g1
      have et : l.take (j + 1) = l.take j ++ [p] := by rw [List.take_add_one, ep]; rfl
      have hgl : g.length < LIM := by
        rw [hI2]
        have := List.length_filter_le (fun p => !wantsIn st l (row s p)) (l.take j)
        have : (l.take j).length ≤ l.length := by rw [List.length_take]; omega
        unfold LIM
        omega
      simp [pbody, sD, row_at g0 g1, rowD]
      refine ⟨by unfold LIM; omega, ?_⟩
      refine comp_filter (l := row s p) (e := gD) (fun g => inO l (wO st g.2) = false) (fun g hg K k1 k2 => ?_) ?_
      · simp [cbody, wants_p hW (ok.nx hk g0 g1 hg), notin_opts]
        split <;> rename_i hh <;> first | exact k1 (by simpa using hh) | exact k2 (by simpa using hh)
      · simp only [gone_len]
        split
        · rename_i hw
          simp [hgl]
          refine hnx2 (g ++ [p]) _ ?_ (by simp [sD])
          rw [et, List.filter_append, ← hI2]
          simp [hw]
        · rename_i hw
          refine hnx2 g _ ?_ (by simp [sD])
          rw [et, List.filter_append, ← hI2]
          simp at hw
          simp [hw]
    · rw [List.take_length] at hI2
      simp
      refine ⟨by unfold LIM; omega, ?_⟩
      refine comp_filter (fun p => p ∉ g) (fun p hp K k1 k2 => ?_) ?_
      · simp [cbody]
        split <;> rename_i hh <;> first | exact k1 (by simpa using hh) | exact k2 (by simpa using hh)
      · have ef : (l.filter fun p => decide (p ∉ g)) = peel seats st s l := by
          unfold peel
          refine List.filter_congr fun p hp => ?_
          rw [hI2]
          simp [List.mem_filter, hp]
        simp only [ef]
        have hpl : g = [] ↔ peel seats st s l = l := by
          rw [hI2]
          unfold peel
          rw [List.filter_eq_nil_iff, List.filter_eq_self]
          exact forall_congr' fun p => imp_congr_right fun _ => by cases wantsIn st l (row s p) <;> simp
        split
        · rename_i hg
          rw [hpl.mp hg]
          exact q l (great_of h1 h2 (hpl.mp hg) h3)
        · rename_i hg
          have : (peel seats st s l).length ≠ l.length := fun e => hg (hpl.mpr (peel_eq e))
          have := peel_len (seats := seats) (st := st) (s := s) (l := l)
          exact hnx (peel seats st s l) _ ⟨by omega, h1.sublist List.filter_sublist, fun q hq => h2 q (List.mem_filter.mp (show q ∈ List.filter _ l from hq)).1, fun L hL => peel_keep (h3 L hL) hL⟩ rfl
  · obtain ⟨h0, _⟩ := hI
    simp at h0
    omega
/-- all guests of a row want a place: the places -/
def goals (st : List Stg) (r : List Gst) : List Int := r.map fun g => (wO st g.2).getD 0
theorem goals_eq {r : List Gst} (h : ∀ g ∈ r, wO st g.2 ≠ none) : (r.map fun g => optD (wO st g.2)) = (goals st r).map .int := by
  unfold goals
  rw [List.map_map]
  refine List.map_congr_left fun g hg => ?_
  cases e : wO st g.2 with
  | none => exact absurd e (h g hg)
  | some w => simp [e]
theorem mem_goals {r : List Gst} (h : ∀ g ∈ r, wO st g.2 ≠ none) {w : Int} : w ∈ goals st r ↔ ∃ g ∈ r, wO st g.2 = some w := by
  unfold goals
  rw [List.mem_map]
  constructor
  · rintro ⟨g, hg, e⟩
    cases e2 : wO st g.2 with
    | none => exact absurd e2 (h g hg)
    | some v => rw [e2] at e; simp at e; subst e; exact ⟨g, hg, e2⟩
  · rintro ⟨g, hg, e⟩
    exact ⟨g, hg, by rw [e]; rfl⟩
/-- what wants reach from a place, so far -/
structure Fnd (seats : List Int) (st : List Stg) (s : List (List Gst)) (p : Int) (f : List Int) : Prop where
  mem : p ∈ f
  nd : f.Nodup
  rng : ∀ q ∈ f, 0 ≤ q ∧ q < s.length
  sub : ∀ L, Clo seats st s L → p ∈ L → ∀ q ∈ f, q ∈ L
theorem Fnd.len (h : Fnd seats st s p l) : l.length ≤ s.length := nodup_len _ h.nd h.rng
theorem Fnd.bad (h : Fnd seats st s p l) {q : Int} (hq : q ∈ l) (hb : full seats s q = false ∨ ∃ g ∈ row s q, wO st g.2 = none) : IsLeast seats st s p [] := by
  refine ⟨fun e => absurd rfl e, fun L hL hp => ?_⟩
  have := (hL q (h.sub L hL hp q hq)).2
  rw [held_iff] at this
  rcases hb with hb | ⟨g, hg, hb⟩
  · rw [hb] at this; cases this.1
  · obtain ⟨w, _, e⟩ := this.2 g hg
    rw [hb] at e; cases e
theorem Fnd.fin (h : Fnd seats st s p l) (hc : ∀ q ∈ l, full seats s q = true ∧ ∀ g ∈ row s q, ∃ w ∈ l, wO st g.2 = some w) : IsLeast seats st s p (l.mergeSort leI) := by
  have hm : ∀ q, q ∈ l.mergeSort leI ↔ q ∈ l := fun q => List.mem_mergeSort
  have hne : l.mergeSort leI ≠ [] := fun e => by
    have := (hm p).mpr h.mem
    rw [e] at this
    simp at this
  refine ⟨fun _ => ⟨asc_int h.nd, (hm p).mpr h.mem, fun q hq => ⟨h.rng q ((hm q).mp hq), held_iff.mpr ?_⟩⟩, fun L hL hp => ⟨hne, fun q hq => h.sub L hL hp q ((hm q).mp hq)⟩⟩
  have := hc q ((hm q).mp hq)
  exact ⟨this.1, fun g hg => let ⟨w, h1, h2⟩ := this.2 g hg; ⟨w, (hm w).mpr h1, h2⟩⟩
/-- one more -/
theorem Fnd.add (h : Fnd seats st s p l) (hk : Hok seats st) (ok : Sok seats st s) {q w : Int} (hq : q ∈ l) {g : Gst} (hg : g ∈ row s q) (hw : wO st g.2 = some w) (hn : w ∉ l) : Fnd seats st s p (l ++ [w]) where
  mem := List.mem_append_left _ h.mem
  nd := by
    rw [List.nodup_append]
    exact ⟨h.nd, by simp, fun a ha b hb => by rw [List.mem_singleton] at hb; subst hb; exact fun e => hn (e ▸ ha)⟩
  rng := fun x hx => by
    rcases List.mem_append.mp hx with hx | hx
    · exact h.rng x hx
    · rw [List.mem_singleton] at hx
      subst hx
      have hr := h.rng q hq
      rw [ok.len]
      exact wO_pl hk (ok.nx hk hr.1 hr.2 hg) hw
  sub := fun L hL hp x hx => by
    rcases List.mem_append.mp hx with hx | hx
    · exact h.sub L hL hp x hx
    · rw [List.mem_singleton] at hx
      subst hx
      have := (hL q (h.sub L hL hp q hq)).2
      rw [held_iff] at this
      obtain ⟨v, hv, e⟩ := this.2 g hg
      rw [hw] at e
      cases e
      exact hv
theorem fnd_one (h0 : 0 ≤ p) (h1 : p < s.length) : Fnd seats st s p [p] := ⟨by simp, by simp, fun q hq => by rw [List.mem_singleton] at hq; subst hq; exact ⟨h0, h1⟩, fun L _ hp q hq => by rw [List.mem_singleton] at hq; subst hq; exact hp⟩
theorem none_in {r : List Gst} : cmpR .isin (.val .non) (.newL (r.map fun g => optD (wO st g.2))) [] = some (decide (∃ g ∈ r, wO st g.2 = none)) := by
  rw [isin_new rfl (fun x hx => by obtain ⟨g, _, rfl⟩ := List.mem_map.mp hx; simp)]
  congr 1
  rw [Bool.eq_iff_iff]
  simp
theorem stuck_at_p (hW : TP "wanted_place" = some p_wanted_place) (hR : TP "has_room" = some p_has_room) (hS : TP "stuck_at" = some p_stuck_at) (hO : Γ "OUT" = some (.int (-1))) (hk : Hok seats st) (ok : Sok seats st s) (h0 : 0 ≤ p) (h1 : p < s.length) (q : ∀ l, IsLeast seats st s p l → Q (.val (.tup (l.map .int)))) :
    callP TP Γ (n + 3) "stuck_at" [.val (hD seats st), .val (sD s), .val (.int p)] Q Y := by
  refine pcall hS (by decide) (by decide) rfl ?_
  have hls := hk.ls
  have hlen := ok.len
  simp [p_stuck_at]
  refine whl_at (fun m ρ => ∃ (f : List Int) (a : Nat), ρ = [some (.fz, .val (hD seats st)), some (.fz, .val (sD s)), some (.fz, .val (.int p)), some (.ow, .newL (f.map .int)), some (.fz, .val (.int a)), none, none, none, none] ∧ m + a = s.length + 1 ∧ a ≤ f.length ∧ Fnd seats st s p f ∧ ∀ (j : Nat) (x : Int), j < a → f[j]? = some x → full seats s x = true ∧ ∀ g ∈ row s x, ∃ w ∈ f, wO st g.2 = some w) (s.length + 1) (by omega) ⟨[p], 0, rfl, rfl, by simp, fnd_one h0 h1, fun j x h => by omega⟩ (fun m ρ nx hI hnx => ?_)
  obtain ⟨f, a, rfl, hm, ha, hf, hd⟩ := hI
  have hfl := hf.len
  simp [wcond, wbody]
  split
  · rename_i halt
    have hx : f[a]? = some (f.getD a 0) := by rw [List.getD_eq_getElem?_getD, List.getElem?_eq_getElem halt]; rfl
    have hxm := List.mem_of_getElem? hx
    have e1 : L2.atI (f.map D.int) (a : Int) = some (.int (f.getD a 0)) := by rw [at_nat, List.getElem?_map, hx]; rfl
    obtain ⟨x0, x1⟩ := hf.rng _ hxm
    simp only [e1]
    generalize f.getD a 0 = x at hx hxm x0 x1
    have hrl := ok.row_le hk x0 x1
    simp [sD, row_at x0 x1, rowD]
    refine ⟨by unfold LIM; omega, comp_map (l := row s x) (e := gD) (fun g => optD (wO st g.2)) (fun g hg K hK => ?_) ?_⟩
    · simp [cbody, wanted_p hW hO (ok.nx hk x0 x1 hg)]
      exact hK
    · have er : ∀ {Q : R → Prop} {Y : XP}, callP TP Γ (n + 2) "has_room" [.val (hD seats st), .val (.tup (s.map rowD)), .val (.int x)] Q Y = Q (.val (.bl (decide (((row s x).length : Int) < seat seats x)))) := room_p hR ok x0 x1
      simp only [er, room_full ok x0 x1, bif_val, none_in]
      split
      · rename_i hh
        exact q [] (hf.bad hxm (.inl (by simpa using hh)))
      · rename_i hfull
        split
        · rename_i hh
          exact q [] (hf.bad hxm (.inr (by simpa using hh)))
        · rename_i hnn
          have hnn : ∀ g ∈ row s x, wO st g.2 ≠ none := by simpa using hnn
          have hfull : full seats s x = true := by simpa using hfull
          rw [goals_eq hnn]
          refine for_st (l := goals st (row s x)) (e := D.int) (fun f' : List Int => [some (.fz, .val (hD seats st)), some (.fz, .val (.tup (s.map rowD))), some (.fz, .val (.int p)), some (.ow, .newL (f'.map .int)), some (.fz, .val (.int (a + 1))), some (.fz, .val (.int x)), some (.fz, .newL ((goals st (row s x)).map .int)), none, none]) (fun i f' => Fnd seats st s p f' ∧ (∃ t, f' = f ++ t) ∧ ∀ w ∈ (goals st (row s x)).take i, w ∈ f') (s0 := f) ⟨hf, ⟨[], by simp⟩, by simp⟩ (fun i w f' nx' ew hI2 hnx2 => ?_) (fun f' hI2 => ?_)
          · obtain ⟨g1, g2, g3⟩ := hI2
            have hwm := List.mem_of_getElem? ew
            have et : (goals st (row s x)).take (i + 1) = (goals st (row s x)).take i ++ [w] := by rw [List.take_add_one, ew]; rfl
            have hl1 := g1.len
            have hl2 : f'.length < LIM := by unfold LIM; omega
            simp [pbody]
            split
            · rename_i hin
              refine hnx2 f' _ ⟨g1, g2, fun v hv => ?_⟩ (by simp)
              rw [et] at hv
              rcases List.mem_append.mp hv with hv | hv
              · exact g3 v hv
              · rw [List.mem_singleton] at hv; subst hv; exact hin
            · rename_i hin
              obtain ⟨g, hg, hw⟩ := (mem_goals hnn).mp hwm
              obtain ⟨t, rfl⟩ := g2
              have hxm' : x ∈ f ++ t := List.mem_append_left _ hxm
              refine ⟨hl2, hnx2 (f ++ t ++ [w]) _ ⟨g1.add hk ok hxm' hg hw hin, ⟨t ++ [w], by simp⟩, fun v hv => ?_⟩ (by simp)⟩
              rw [et] at hv
              rcases List.mem_append.mp hv with hv | hv
              · exact List.mem_append_left _ (g3 v hv)
              · exact List.mem_append_right _ hv
          · obtain ⟨g1, ⟨t, rfl⟩, g3⟩ := hI2
            rw [List.take_length] at g3
            refine hnx (m - 1) _ (by omega) ⟨f ++ t, a + 1, by simp [sD], by omega, by simp; omega, g1, fun j y hj hy => ?_⟩
            rw [List.getElem?_append_left (by omega)] at hy
            by_cases hja : j < a
            · obtain ⟨d1, d2⟩ := hd j y hja hy
              exact ⟨d1, fun g hg => let ⟨w, w1, w2⟩ := d2 g hg; ⟨w, List.mem_append_left _ w1, w2⟩⟩
            · have : j = a := by omega
              subst this
              rw [hx] at hy
              cases hy
              refine ⟨hfull, fun g hg => ?_⟩
              cases e : wO st g.2 with
              | none => exact absurd e (hnn g hg)
              | some w => exact ⟨w, g3 w ((mem_goals hnn).mpr ⟨g, hg, e⟩), rfl⟩
  · rename_i hge
    have : a = f.length := by omega
    refine q _ (hf.fin fun x hx => ?_)
    obtain ⟨j, hj⟩ := List.mem_iff_getElem?.mp hx
    have := (List.getElem?_eq_some_iff.mp hj).1
    exact hd j x (by omega) hj
/-- whether a lot is stuck -/
def stuckB (seats : List Int) (st : List Stg) (s : List (List Gst)) (L : List Int) : Bool := decide (0 < L.length) && L.all fun p => heldB seats st s L p
theorem is_stuck_p (hW : TP "_law_wants" = some p__law_wants) (hF : TP "_law_is_full" = some p__law_is_full) (hS : TP "_law_is_stuck" = some p__law_is_stuck) (hk : Hok seats st) (ok : Sok seats st s) (hL : ∀ x ∈ L, 0 ≤ x ∧ x < s.length) (q : Q (.val (.bl (stuckB seats st s L)))) :
    callP TP Γ (n + 3) "_law_is_stuck" [.val (hD seats st), .val (sD s), .val (.tup (L.map .int))] Q Y := by
  refine pcall hS (by decide) (by decide) rfl ?_
  simp [p__law_is_stuck]
  have bad : ∀ x ∈ L, heldB seats st s L x = false → Q (.val (.bl false)) := fun x hx h => by
    have : stuckB seats st s L = false := by
      unfold stuckB
      rw [Bool.and_eq_false_iff]
      right
      rw [← Bool.not_eq_true, List.all_eq_true]
      exact fun z => by have := z x hx; rw [h] at this; cases this
    rw [this] at q
    exact q
  refine for_st (l := L) (e := D.int) (fun _ : Unit => [some (.fz, .val (hD seats st)), some (.fz, .val (sD s)), some (.fz, .val (.tup (L.map .int))), none, none]) (fun i _ => ∀ x ∈ L.take i, heldB seats st s L x = true) (s0 := ()) (by simp) (fun i x _ nx ex hI hnx => ?_) (fun _ hI => ?_)
  · have hx := List.mem_of_getElem? ex
    obtain ⟨x0, x1⟩ := hL x hx
    have et : L.take (i + 1) = L.take i ++ [x] := by rw [List.take_add_one, ex]; rfl
    have hrl := ok.row_le hk x0 x1
    simp [pbody, full_p hF ok x0 x1]
    split
    rotate_left
    · rename_i hf
      exact bad x hx (by unfold heldB; simp [hf])
    · rename_i hf
      simp [sD, row_at x0 x1, rowD]
      refine ⟨by unfold LIM; omega, ?_⟩
      refine comp_filter (l := row s x) (e := gD) (fun g => inO L (wO st g.2) = false) (fun g hg K k1 k2 => ?_) ?_
      · simp [cbody, wants_p hW (ok.nx hk x0 x1 hg), notin_optsT]
        split <;> rename_i hh <;> first | exact k1 (by simpa using hh) | exact k2 (by simpa using hh)
      · simp only [gone_len]
        split
        · rename_i hw
          exact bad x hx (by unfold heldB; rw [hw]; simp)
        · rename_i hw
          refine hnx () _ (fun y hy => ?_) (by simp [sD])
          rw [et] at hy
          rcases List.mem_append.mp hy with hy | hy
          · exact hI y hy
          · rw [List.mem_singleton] at hy
            subst hy
            unfold heldB
            simp at hf hw
            rw [hf, hw]
            rfl
  · rw [List.take_length] at hI
    simp
    have : stuckB seats st s L = decide (0 < L.length) := by
      unfold stuckB
      rw [List.all_eq_true.mpr hI, Bool.and_true]
    rw [this] at q
    exact q
theorem sublist_snoc {α : Type} {l a : List α} {x : α} : l.Sublist (a ++ [x]) ↔ l.Sublist a ∨ ∃ l', l = l' ++ [x] ∧ l'.Sublist a := by
  rw [List.sublist_append_iff]
  constructor
  · rintro ⟨l1, l2, rfl, h1, h2⟩
    match l2, h2 with
    | [], _ => left; simpa using h1
    | [y], h2 =>
      right
      have : y = x := by
        have := h2.subset (List.mem_singleton.mpr rfl)
        simpa using this
      subst this
      exact ⟨l1, rfl, h1⟩
    | y :: z :: t, h2 => have := h2.length_le; simp at this
  · rintro (h | ⟨l', rfl, h⟩)
    · exact ⟨l, [], by simp, h, by simp⟩
    · exact ⟨l', [x], rfl, h, List.Sublist.refl _⟩
theorem lots_p (hW : TP "_law_wants" = some p__law_wants) (hF : TP "_law_is_full" = some p__law_is_full) (hI : TP "_law_is_stuck" = some p__law_is_stuck) (hS : TP "_law_lots" = some p__law_lots) (hk : Hok seats st) (ok : Sok seats st s) (h6 : (fulls seats s).length ≤ 6) (q : ∀ ls : List (List Int), ls.length ≤ 64 → (∀ l, l ∈ ls ↔ l.Sublist (fulls seats s) ∧ stuckB seats st s l = true) → Q (.newL (ls.map tiD))) :
    callP TP Γ (n + 4) "_law_lots" [.val (hD seats st), .val (sD s)] Q Y := by
  refine pcall hS (by decide) (by decide) rfl ?_
  have hls := hk.ls
  have hlen := ok.len
  have e1 : lenP (.val (sD s)) = some (s.length : Int) := by unfold sD; simp
  simp [p__law_lots, e1]
  refine ⟨by unfold LIM; omega, ?_⟩
  refine comp_filter (l := List.range s.length) (e := fun (k : Nat) => D.int k) (fun k => full seats s k = true) (fun k hk' K h1 h2 => ?_) ?_
  · have := List.mem_range.mp hk'
    simp [cbody, full_p hF ok (p := k) (by omega) (by omega)]
    split <;> rename_i hh <;> first | exact h1 (by simpa using hh) | exact h2 (by simpa using hh)
  rw [fulls_eq]
  have hfr : ∀ x ∈ fulls seats s, 0 ≤ x ∧ x < s.length := fun x hx => (mem_fulls.mp hx).1
  generalize fulls seats s = F at h6 q hfr
  refine for_st (l := F) (e := D.int) (fun rs : List (List Int) => [some (.fz, .val (hD seats st)), some (.fz, .val (sD s)), some (.fz, .newL (F.map .int)), some (.ow, .newL []), none, some (.fz, .newL (rs.map tiD)), none]) (fun i rs => rs.length = 2 ^ i ∧ ∀ l, l ∈ rs ↔ l.Sublist (F.take i)) (s0 := [[]]) ⟨rfl, by simp⟩ (fun i x rs nx ex hJ hnx => ?_) (fun rs hJ => ?_)
  · obtain ⟨j1, j2⟩ := hJ
    have et : F.take (i + 1) = F.take i ++ [x] := by rw [List.take_add_one, ex]; rfl
    have hi := (List.getElem?_eq_some_iff.mp ex).1
    have hp : (2 : Nat) ^ i ≤ 2 ^ 6 := Nat.pow_le_pow_right (by omega) (by omega)
    have hl1 : rs.length ≤ LIM := by unfold LIM; omega
    have hl2 : rs.length + rs.length ≤ LIM := by unfold LIM; omega
    simp [pbody, hl1]
    refine comp_map (l := rs) (e := tiD) (fun l => tiD (l ++ [x])) (fun l hl K hK => ?_) ?_
    · have : l.length ≤ 6 := by
        have := ((j2 l).mp hl).length_le
        rw [List.length_take] at this
        omega
      have h9 : l.length + 1 ≤ LIM := by unfold LIM; omega
      simp [cbody, tiD, h9]
      simpa [tiD] using hK
    · simp [hl2]
      refine hnx (rs ++ rs.map fun l => l ++ [x]) _ ⟨by simp [j1]; rw [Nat.pow_succ]; omega, fun l => ?_⟩ (by simp)
      rw [et, sublist_snoc, List.mem_append, j2 l, List.mem_map]
      refine or_congr Iff.rfl ⟨fun ⟨l', h1, h2⟩ => ⟨l', h2.symm, (j2 l').mp h1⟩, fun ⟨l', h1, h2⟩ => ⟨l', (j2 l').mpr h2, h1.symm⟩⟩
  · obtain ⟨j1, j2⟩ := hJ
    rw [List.take_length] at j2
    have hp : (2 : Nat) ^ F.length ≤ 2 ^ 6 := Nat.pow_le_pow_right (by omega) h6
    simp
    refine for_st (l := rs) (e := tiD) (fun fs : List (List Int) => [some (.fz, .val (hD seats st)), some (.fz, .val (sD s)), some (.fz, .newL (F.map .int)), some (.ow, .newL (fs.map tiD)), none, some (.fz, .newL (rs.map tiD)), none]) (fun i fs => fs = (rs.take i).filter fun l => stuckB seats st s l) (s0 := []) (by simp) (fun i l fs nx el hJ hnx => ?_) (fun fs hJ => ?_)
    · have hl := (j2 l).mp (List.mem_of_getElem? el)
      have et : rs.take (i + 1) = rs.take i ++ [l] := by rw [List.take_add_one, el]; rfl
      have hfl : fs.length < LIM := by
        rw [hJ]
        have := List.length_filter_le (fun l => stuckB seats st s l) (rs.take i)
        have : (rs.take i).length ≤ rs.length := by rw [List.length_take]; omega
        unfold LIM
        omega
      simp [pbody, tiD]
      refine is_stuck_p hW hF hI hk ok (fun x hx => hfr x (hl.subset hx)) ?_
      simp
      split
      · rename_i hs
        refine ⟨hfl, hnx (fs ++ [l]) _ ?_ (by simp [tiD])⟩
        rw [et, List.filter_append, ← hJ]
        simp [hs]
      · rename_i hs
        refine hnx fs _ ?_ (by simp [tiD])
        rw [et, List.filter_append, ← hJ]
        simp [hs]
    · rw [List.take_length] at hJ
      refine q fs ?_ fun l => ?_
      · rw [hJ]
        have := List.length_filter_le (fun l => stuckB seats st s l) rs
        omega
      · rw [hJ, List.mem_filter, j2 l]
end
end LK

set_option Elab.async false
set_option linter.all false
set_option autoImplicit false
set_option maxRecDepth 100000
set_option maxHeartbeats 4000000
/-! PStk15: the typed stands of k15 to k25; rings; _law_looked of k15. -/
namespace LK
open PySem
def p__law_typed : PFn :=
  ⟨0, 5, .cons [] (.set 0 (.tup (.cons (.int 1) (.cons (.int 1) (.cons (.int 2) (.cons (.int 1) (.cons (.int 1) (.nil))))))))
    (.cons [] (.set 1 (.tup (.cons (.tup (.cons (.int 0) (.cons (.tup (.cons (.int 1) (.nil))) (.nil)))) (.cons (.tup (.cons (.int 1) (.cons (.tup (.cons (.int 0) (.cons (.int 2) (.nil)))) (.nil)))) (.cons (.tup (.cons (.int 2) (.cons (.tup (.cons (.int 0) (.cons (.int 3) (.nil)))) (.nil)))) (.cons (.tup (.cons (.int 3) (.cons (.tup (.cons (.int 4) (.nil))) (.nil)))) (.cons (.tup (.cons (.int 4) (.cons (.tup (.cons (.neg (.int 1)) (.cons (.int 2) (.cons (.int 3) (.nil))))) (.nil)))) (.nil))))))))
    (.cons [] (.set 2 (.tup (.cons (.var 0) (.cons (.var 1) (.nil)))))
    (.cons [] (.set 3 (.lst (.cons (.tup (.cons (.tup (.cons (.int 0) (.cons (.int 1) (.nil)))) (.nil))) (.cons (.tup (.cons (.tup (.cons (.int 1) (.cons (.int 0) (.nil)))) (.nil))) (.cons (.tup (.cons (.tup (.cons (.int 2) (.cons (.int 0) (.nil)))) (.cons (.tup (.cons (.int 2) (.cons (.int 0) (.nil)))) (.nil)))) (.cons (.tup (.cons (.tup (.cons (.int 3) (.cons (.int 4) (.nil)))) (.nil))) (.cons (.tup (.cons (.tup (.cons (.int 4) (.cons (.int 3) (.nil)))) (.nil))) (.nil))))))))
    (.cons [] (.set 4 (.lst (.cons (.seq .tuple (.var 3)) (.cons (.seq .tuple (.bin .add (.slc (.var 3) (.non) (.int 4)) (.lst (.cons (.tup (.nil)) (.nil))))) (.cons (.seq .tuple (.bin .add (.bin .add (.slc (.var 3) (.non) (.int 2)) (.lst (.cons (.tup (.nil)) (.nil)))) (.slc (.var 3) (.int 3) (.non)))) (.cons (.seq .tuple (.bin .add (.slc (.var 3) (.non) (.int 4)) (.lst (.cons (.tup (.cons (.tup (.cons (.int 4) (.cons (.neg (.int 1)) (.nil)))) (.nil))) (.nil))))) (.cons (.tup (.cons (.tup (.nil)) (.cons (.tup (.nil)) (.cons (.tup (.nil)) (.cons (.tup (.nil)) (.cons (.tup (.nil)) (.nil))))))) (.nil))))))))
    (.cons [] (.set 4 (.bin .add (.var 4) (.lst (.cons (.seq .tuple (.bin .add (.bin .add (.slc (.var 3) (.non) (.int 2)) (.lst (.cons (.tup (.cons (.tup (.cons (.int 2) (.cons (.int 3) (.nil)))) (.nil))) (.nil)))) (.slc (.var 3) (.int 3) (.non)))) (.cons (.seq .tuple (.bin .add (.lst (.cons (.tup (.nil)) (.nil))) (.slc (.var 3) (.int 1) (.non)))) (.cons (.tup (.cons (.tup (.cons (.tup (.cons (.int 0) (.cons (.int 1) (.nil)))) (.nil))) (.cons (.tup (.cons (.tup (.cons (.int 1) (.cons (.int 2) (.nil)))) (.nil))) (.cons (.tup (.cons (.tup (.cons (.int 2) (.cons (.int 0) (.nil)))) (.cons (.tup (.cons (.int 2) (.cons (.int 3) (.nil)))) (.nil)))) (.cons (.tup (.nil)) (.cons (.tup (.nil)) (.nil))))))) (.nil)))))))
    (.cons [] (.ret (.tup (.cons (.var 2) (.cons (.bin .add (.var 4) (.lst (.cons (.tup (.cons (.tup (.cons (.tup (.cons (.int 0) (.cons (.int 1) (.nil)))) (.nil))) (.cons (.tup (.cons (.tup (.cons (.int 1) (.cons (.int 2) (.nil)))) (.nil))) (.cons (.tup (.cons (.tup (.cons (.int 2) (.cons (.int 0) (.nil)))) (.cons (.tup (.cons (.int 2) (.cons (.int 3) (.nil)))) (.nil)))) (.cons (.tup (.cons (.tup (.cons (.int 3) (.cons (.int 4) (.nil)))) (.nil))) (.cons (.tup (.cons (.tup (.cons (.int 4) (.cons (.int 2) (.nil)))) (.nil))) (.nil))))))) (.cons (.tup (.cons (.tup (.cons (.tup (.cons (.int 0) (.cons (.int 1) (.nil)))) (.nil))) (.cons (.tup (.cons (.tup (.cons (.int 1) (.cons (.int 2) (.nil)))) (.nil))) (.cons (.tup (.cons (.tup (.cons (.int 2) (.cons (.int 0) (.nil)))) (.cons (.tup (.cons (.int 2) (.cons (.int 0) (.nil)))) (.nil)))) (.cons (.tup (.nil)) (.cons (.tup (.nil)) (.nil))))))) (.nil))))) (.nil)))))
    (.nil)))))))⟩
def p__law_chain : PFn :=
  ⟨2, 5, .cons [] (.set 2 (.seq .tuple (.comp (.tup (.cons (.var 3) (.cons (.tup (.cons (.neg (.int 1)) (.cons (.bin .mod (.int1 (.bin .add (.var 3) (.int 1))) (.var 0)) (.nil)))) (.nil)))) (.one 3) (.rng1 (.var 0)) (.nil))))
    (.cons [] (.set 4 (.seq .tuple (.comp (.tup (.cons (.tup (.cons (.var 3) (.cons (.ite (.cmp .eq (.var 3) (.var 1)) (.neg (.int 1)) (.bin .mod (.int1 (.bin .add (.var 3) (.int 1))) (.var 0))) (.nil)))) (.nil))) (.one 3) (.rng1 (.var 0)) (.nil))))
    (.cons [] (.ret (.tup (.cons (.tup (.cons (.bin .mul (.tup (.cons (.int 1) (.nil))) (.var 0)) (.cons (.var 2) (.nil)))) (.cons (.var 4) (.nil)))))
    (.nil)))⟩
def p__law_looked15 : PFn :=
  ⟨2, 6, .cons [] (.set 2 (.call "_law_peeled" (.cons (.var 0) (.cons (.var 1) (.nil))) (.nil) []))
    (.cons [] (.ite (.not (.call "_law_same" (.cons (.call "stuck_lot" (.cons (.var 0) (.cons (.var 1) (.nil))) (.nil) []) (.cons (.var 2) (.nil))) (.nil) []))
    (.cons [] (.ret (.bl false))
    (.nil))
    (.nil))
    (.cons [] (.ite (.cmp .gt (.len (.comp (.var 3) (.one 3) (.rng1 (.len (.var 1))) (.cons (.call "_law_is_full" (.cons (.var 0) (.cons (.var 1) (.cons (.var 3) (.nil)))) (.nil) []) (.nil)))) (.int 6))
    (.cons [] (.ret (.bl true))
    (.nil))
    (.nil))
    (.cons [] (.set 4 (.lst (.nil)))
    (.cons [] (.for_ [5] (.one 5) (.ex (.call "_law_lots" (.cons (.var 0) (.cons (.var 1) (.nil))) (.nil) []))
    (.cons [] (.set 4 (.bin .add (.var 4) (.comp (.var 3) (.one 3) (.ex (.var 5)) (.cons (.cmp .notin (.var 3) (.var 4)) (.nil)))))
    (.nil)))
    (.cons [] (.ret (.cmp .eq (.seq .tuple (.seq .sorted (.var 4))) (.var 2)))
    (.nil))))))⟩
def pairB {α : Type} (r : α → α → Bool) : List α → Bool
  | [] => true
  | a :: l => l.all (r a) && pairB r l
theorem pairB_iff {α : Type} {r : α → α → Bool} : ∀ {l : List α}, pairB r l = true → l.Pairwise fun a b => r a b = true
  | [], _ => .nil
  | a :: l, h => by
    rw [pairB, Bool.and_eq_true, List.all_eq_true] at h
    exact List.pairwise_cons.mpr ⟨h.1, pairB_iff h.2⟩
/-- a house, a stand, by looking -/
def hokB (seats : List Int) (st : List Stg) : Bool :=
  decide ((1 ≤ seats.length ∧ seats.length ≤ 1000) ∧ (1 ≤ st.length ∧ st.length ≤ 1000) ∧ (∀ q ∈ seats, 1 ≤ q ∧ q ≤ 1000) ∧ (∀ s ∈ st, 0 ≤ s.1 ∧ s.1 < seats.length) ∧ (∀ s ∈ st, s.2.length ≤ 1001 ∧ s.2 ≠ [] ∧ ∀ a ∈ s.2, a = -1 ∨ 0 ≤ a ∧ a < st.length) ∧ (∀ s ∈ st, ∀ a ∈ s.2, a ≠ -1 → (stg st a).1 ≠ s.1)) && st.all fun s => pairB (fun a b => decide (a < b)) s.2
theorem hok_of {seats : List Int} {st : List Stg} (h : hokB seats st = true) : Hok seats st := by
  unfold hokB at h
  rw [Bool.and_eq_true, decide_eq_true_eq, List.all_eq_true] at h
  obtain ⟨⟨h1, h2, h3, h4, h5, h6⟩, h7⟩ := h
  exact ⟨h1, h2, h3, h4, h5, fun s hs => (pairB_iff (h7 s hs)).imp fun h => of_decide_eq_true h, h6⟩
def sokB (seats : List Int) (st : List Stg) (s : List (List Gst)) : Bool :=
  decide (s.length = seats.length) && ((List.range s.length).all fun k => decide (((row s k).length : Int) ≤ seat seats k) && (row s k).all fun g => decide ((0 ≤ g.1 ∧ g.1 < st.length) ∧ (stg st g.1).1 = k ∧ g.2 ∈ (stg st g.1).2)) && s.all fun r => pairB leG r
theorem sok_of {seats : List Int} {st : List Stg} {s : List (List Gst)} (h : sokB seats st s = true) : Sok seats st s := by
  unfold sokB at h
  simp only [Bool.and_eq_true, decide_eq_true_eq, List.all_eq_true, List.mem_range] at h
  obtain ⟨⟨h1, h2⟩, h3⟩ := h
  refine ⟨h1, fun p p0 p1 => ?_, fun p p0 p1 g hg => ?_, fun r hr => pairB_iff (h3 r hr)⟩
  · obtain ⟨k, rfl⟩ := Int.eq_ofNat_of_zero_le p0
    exact (h2 k (by omega)).1
  · obtain ⟨k, rfl⟩ := Int.eq_ofNat_of_zero_le p0
    exact (h2 k (by omega)).2 g hg
def tyS : List Int := [1, 1, 2, 1, 1]
def tySt : List Stg := [(0, [1]), (1, [0, 2]), (2, [0, 3]), (3, [4]), (4, [-1, 2, 3])]
def tyRows : List (List (List Gst)) := [
  [[(0, 1)], [(1, 0)], [(2, 0), (2, 0)], [(3, 4)], [(4, 3)]],
  [[(0, 1)], [(1, 0)], [(2, 0), (2, 0)], [(3, 4)], []],
  [[(0, 1)], [(1, 0)], [], [(3, 4)], [(4, 3)]],
  [[(0, 1)], [(1, 0)], [(2, 0), (2, 0)], [(3, 4)], [(4, -1)]],
  [[], [], [], [], []],
  [[(0, 1)], [(1, 0)], [(2, 3)], [(3, 4)], [(4, 3)]],
  [[], [(1, 0)], [(2, 0), (2, 0)], [(3, 4)], [(4, 3)]],
  [[(0, 1)], [(1, 2)], [(2, 0), (2, 3)], [], []],
  [[(0, 1)], [(1, 2)], [(2, 0), (2, 3)], [(3, 4)], [(4, 2)]],
  [[(0, 1)], [(1, 2)], [(2, 0), (2, 0)], [], []]]
theorem tyHok : Hok tyS tySt := hok_of (by decide)
theorem tySok : ∀ s ∈ tyRows, Sok tyS tySt s := fun s hs => sok_of (by
  have : (tyRows.all fun s => sokB tyS tySt s) = true := by decide
  exact List.all_eq_true.mp this s hs)
theorem eq_ti {a b : List Int} : cmpR .eq (.val (.tup (a.map .int))) (.val (.tup (b.map .int))) [] = some (decide (a = b)) := by
  have h : ∀ l : List Int, pl0 (.tup (l.map .int)) = true := fun l => pl0_tiD (t := l)
  refine (eqP_vv (h a) (h b)).trans ?_
  congr 1
  rw [Bool.eq_iff_iff]
  simp only [decide_eq_true_eq]
  exact tiD_eq
theorem asc_sub : ∀ {F l : List Int}, l.Pairwise (· < ·) → F.Pairwise (· < ·) → (∀ x ∈ l, x ∈ F) → l.Sublist F
  | [], [], _, _, _ => .slnil
  | [], x :: l, _, _, h => absurd (h x List.mem_cons_self) (by simp)
  | f :: F, [], _, _, _ => List.nil_sublist _
  | f :: F, x :: l, hl, hF, h => by
    rw [List.pairwise_cons] at hl hF
    by_cases e : x = f
    · subst e
      refine .cons₂ _ (asc_sub hl.2 hF.2 fun y hy => ?_)
      have := h y (List.mem_cons_of_mem _ hy)
      rcases List.mem_cons.mp this with z | z
      · have := hl.1 y hy; omega
      · exact z
    · have hx : x ∈ F := (List.mem_cons.mp (h x List.mem_cons_self)).resolve_left e
      refine .cons _ (asc_sub (List.pairwise_cons.mpr hl) hF.2 fun y hy => ?_)
      rcases List.mem_cons.mp (h y hy) with z | z
      · subst z
        rcases List.mem_cons.mp hy with z | z
        · exact absurd z.symm e
        · have := hl.1 y z; have := hF.1 x hx; omega
      · exact z
theorem stuckB_iff {seats : List Int} {st : List Stg} {s : List (List Gst)} {L : List Int} : stuckB seats st s L = true ↔ L ≠ [] ∧ ∀ p ∈ L, heldB seats st s L p = true := by
  unfold stuckB
  rw [Bool.and_eq_true, List.all_eq_true, decide_eq_true_eq, List.length_pos_iff]
theorem clo_of_sub {seats : List Int} {st : List Stg} {s : List (List Gst)} {L : List Int} (h : L.Sublist (fulls seats s)) (h2 : stuckB seats st s L = true) : Clo seats st s L := fun p hp => ⟨(mem_fulls.mp (h.subset hp)).1, (stuckB_iff.mp h2).2 p hp⟩
theorem sub_of_clo {seats : List Int} {st : List Stg} {s : List (List Gst)} {L : List Int} (h1 : L.Pairwise (· < ·)) (h : Clo seats st s L) (hne : L ≠ []) : L.Sublist (fulls seats s) ∧ stuckB seats st s L = true :=
  ⟨asc_sub h1 asc_fulls (clo_fulls h), stuckB_iff.mpr ⟨hne, fun p hp => (h p hp).2⟩⟩
section
variable {TP : PTab} {Γ : Str → Option D} {n : Nat} {Q : R → Prop} {Y : XP} {seats : List Int} {st : List Stg} {s : List (List Gst)}
structure TB (TP : PTab) (Γ : Str → Option D) : Prop where
  wanted : TP "wanted_place" = some p_wanted_place
  room : TP "has_room" = some p_has_room
  wants : TP "_law_wants" = some p__law_wants
  full : TP "_law_is_full" = some p__law_is_full
  peeled : TP "_law_peeled" = some p__law_peeled
  isstuck : TP "_law_is_stuck" = some p__law_is_stuck
  lots : TP "_law_lots" = some p__law_lots
  same : TP "_law_same" = some p__law_same
  pick : TP "_law_pick" = some p__law_pick
  house : TP "_law_house" = some p_houseB
  stand : TP "_law_stand" = some p_standB
  out : Γ "OUT" = some (.int (-1))
theorem looked15_p (t : TB TP Γ) (hH : TP "are_held" = some p_are_held) (hL : TP "stuck_lot" = some p_stuck_lot) (hS : TP "_law_looked" = some p__law_looked15) (hk : Hok seats st) (ok : Sok seats st s) (q : Q (.val (.bl true))) :
    callP TP Γ (n + 7) "_law_looked" [.val (hD seats st), .val (sD s)] Q Y := by
  refine pcall hS (by decide) (by decide) rfl ?_
  have hls := hk.ls
  have hlen := ok.len
  have e1 : lenP (.val (sD s)) = some (s.length : Int) := by unfold sD; simp
  simp [p__law_looked15]
  refine peeled_p (n := n + 3) t.wants t.full t.peeled hk ok fun due hdue => ?_
  try simp
  refine stuck_lot_p (n := n + 3) t.wanted t.room hH hL t.out hk ok fun due' hdue' => ?_
  have := great_unique hdue' hdue
  subst this
  try simp
  refine same_self t.same 1 (tiD due') (n + 6) _ _ dok_tI (by omega) ?_
  simp [e1]
  refine ⟨by unfold LIM; omega, ?_⟩
  refine comp_filter (l := List.range s.length) (e := fun (k : Nat) => D.int k) (fun k => full seats s k = true) (fun k hk' K h1 h2 => ?_) ?_
  · have := List.mem_range.mp hk'
    simp [cbody, full_p t.full ok (p := k) (by omega) (by omega)]
    split <;> rename_i hh <;> first | exact h1 (by simpa using hh) | exact h2 (by simpa using hh)
  rw [fulls_eq, List.length_map]
  split
  · exact q
  · rename_i h6
    try simp
    refine lots_p (n := n + 2) t.wants t.full t.isstuck t.lots hk ok (by omega) fun ls hl1 hl2 => ?_
    try simp
    refine for_st (l := ls) (e := tiD) (fun f : List Int => [some (.fz, .val (hD seats st)), some (.fz, .val (sD s)), some (.fz, .val (.tup (due'.map .int))), none, some (.fz, .newL (f.map .int)), none]) (fun i f => f.Nodup ∧ ∀ x, x ∈ f ↔ ∃ l ∈ ls.take i, x ∈ l) (s0 := []) ⟨by simp, by simp⟩ (fun i l f nx el hI hnx => ?_) (fun f hI => ?_)
    · obtain ⟨i1, i2⟩ := hI
      have hl := (hl2 l).mp (List.mem_of_getElem? el)
      have et : ls.take (i + 1) = ls.take i ++ [l] := by rw [List.take_add_one, el]; rfl
      have hln : l.Nodup := asc_nodup (asc_fulls.sublist hl.1)
      have hll : l.length ≤ 6 := by have := hl.1.length_le; omega
      have hfl : f.length ≤ s.length := nodup_len _ i1 fun x hx => by
        obtain ⟨l', hl', hx⟩ := (i2 x).mp hx
        exact (mem_fulls.mp (((hl2 l').mp (List.mem_of_mem_take hl')).1.subset hx)).1
      simp [pbody, tiD]
      refine ⟨by unfold LIM; omega, ?_⟩
      refine comp_filter (fun x => x ∉ f) (fun x hx K k1 k2 => ?_) ?_
      · simp [cbody]
        split <;> rename_i hh <;> first | exact k1 (by simpa using hh) | exact k2 (by simpa using hh)
      · have h9 : f.length + (l.filter fun a => decide (a ∉ f)).length ≤ LIM := by
          have := List.length_filter_le (fun a => decide (a ∉ f)) l
          unfold LIM
          omega
        simp only [b_ll, List.length_map]
        refine ⟨h9, hnx (f ++ l.filter fun a => decide (a ∉ f)) _ ⟨?_, fun x => ?_⟩ (by simp)⟩
        · rw [List.nodup_append]
          refine ⟨i1, hln.sublist List.filter_sublist, fun a ha b hb e => ?_⟩
          subst e
          rw [List.mem_filter] at hb
          exact (of_decide_eq_true hb.2) ha
        · rw [List.mem_append, i2 x, et, List.mem_filter]
          constructor
          · rintro (⟨l', h1, h2⟩ | ⟨h1, h2⟩)
            · exact ⟨l', List.mem_append_left _ h1, h2⟩
            · exact ⟨l, by simp, h1⟩
          · rintro ⟨l', h1, h2⟩
            rcases List.mem_append.mp h1 with h1 | h1
            · exact .inl ⟨l', h1, h2⟩
            · rw [List.mem_singleton] at h1
              subst h1
              by_cases hx : x ∈ f
              · exact .inl ((i2 x).mp hx)
              · exact .inr ⟨h2, by simpa using hx⟩
    · obtain ⟨i1, i2⟩ := hI
      rw [List.take_length] at i2
      have e : f.mergeSort leI = due' := asc_eq asym_int (asc_int i1) hdue.1 fun x => by
        rw [List.mem_mergeSort, i2 x]
        constructor
        · rintro ⟨l, h1, h2⟩
          obtain ⟨g1, g2⟩ := (hl2 l).mp h1
          exact hdue.2.2 l (clo_of_sub g1 g2) x h2
        · intro hx
          exact ⟨due', (hl2 due').mpr (sub_of_clo hdue.1 hdue.2.1 (fun e => by rw [e] at hx; simp at hx)), hx⟩
      simp [e, eq_ti]
      exact q
/-! ### rings -/
def ringS (m : Nat) : List Int := List.replicate m 1
def ringSt (m : Nat) : List Stg := (List.range m).map fun (k : Nat) => ((k : Int), [-1, ((k : Int) + 1).fmod m])
def ringG (m : Nat) (t : Option Int) (k : Nat) : Gst := ((k : Int), if t = some (k : Int) then -1 else ((k : Int) + 1).fmod m)
def ringR (m : Nat) (t : Option Int) : List (List Gst) := (List.range m).map fun k => [ringG m t k]
theorem chain_p (hS : TP "_law_chain" = some p__law_chain) {m : Nat} {t : Option Int} (hm : 2 ≤ m ∧ m ≤ 1000) (q : Q (.val (.tup [hD (ringS m) (ringSt m), sD (ringR m t)]))) :
    callP TP Γ (n + 1) "_law_chain" [.val (.int m), .val (optD t)] Q Y := by
  refine pcall hS (by decide) (by decide) rfl ?_
  have hm0 : ¬ m = 0 := by omega
  simp [p__law_chain]
  refine ⟨by unfold LIM; omega, ?_⟩
  refine comp_map (l := List.range m) (e := fun (k : Nat) => D.int k) (fun k => stD ((k : Int), [-1, ((k : Int) + 1).fmod m])) (fun k hk K hK => ?_) ?_
  · simp [cbody, hm0]
    simpa [stD] using hK
  · refine ⟨by unfold LIM; omega, ?_⟩
    refine comp_map (l := List.range m) (e := fun (k : Nat) => D.int k) (fun k => rowD [ringG m t k]) (fun k hk K hK => ?_) ?_
    · have e : cmpR .eq (.val (.int (k : Int))) (.val (optD t)) [] = some (decide (t = some (k : Int))) := by
        refine (eqP_vv (pl0_int) (optD_pl0)).trans ?_
        congr 1
        rw [Bool.eq_iff_iff]
        simp only [decide_eq_true_eq]
        exact ⟨fun h => (optD_eq_int.mp h.symm), fun h => (optD_eq_int.mpr h).symm⟩
      simp [cbody, e]
      unfold ringG at hK
      split
      · rename_i h
        simpa [h, rowD, gD] using hK
      · rename_i h
        simpa [h, hm0, rowD, gD] using hK
    · refine ⟨by omega, ?_⟩
      have e1 : repL [D.int 1] (m : Int) = (ringS m).map .int := by
        unfold repL ringS
        rw [List.map_replicate]
        simp
      rw [e1]
      simpa [hD, sD, ringSt, ringR, List.map_map, Function.comp_def] using q
/-- peeled k times -/
def peelN (seats : List Int) (st : List Stg) (s : List (List Gst)) : Nat → List Int
  | 0 => fulls seats s
  | k + 1 => peel seats st s (peelN seats st s k)
theorem great_peelN {k : Nat} (h : peelN seats st s (k + 1) = peelN seats st s k) : IsGreat seats st s (peelN seats st s k) := by
  have g : ∀ k, (peelN seats st s k).Pairwise (· < ·) ∧ (∀ q ∈ peelN seats st s k, q ∈ fulls seats s) ∧ ∀ L, Clo seats st s L → ∀ q ∈ L, q ∈ peelN seats st s k := by
    intro k
    induction k with
    | zero => exact ⟨asc_fulls, fun q h => h, fun L hL => clo_fulls hL⟩
    | succ k ih =>
      obtain ⟨h1, h2, h3⟩ := ih
      exact ⟨h1.sublist List.filter_sublist, fun q hq => h2 q (List.mem_filter.mp (show q ∈ List.filter _ _ from hq)).1, fun L hL => peel_keep (h3 L hL) hL⟩
  obtain ⟨h1, h2, h3⟩ := g k
  exact great_of h1 h2 h h3
end
end LK

set_option Elab.async false
set_option linter.all false
set_option autoImplicit false
set_option maxRecDepth 100000
set_option maxHeartbeats 4000000
namespace K15
open PySem PySem.Spec PyProof.Rows L2 LK
def topS (i : Nat) : Stmt := PySem.Challenge.pw_lookonce_k15_the_greatest_stuck_lot.main.body.getD i (.Pass ⟨0, 0, 0, 0⟩)
def d_wanted_place : FnDef :=
  ⟨2, 2, .cons (.ret (.ite (.cmp .eq (.idx (.var 1) (.int 1)) (.glob "OUT")) (.non) (.idx (.idx (.idx (.var 0) (.int 1)) (.idx (.var 1) (.int 1))) (.int 0))))
    (.nil)⟩
theorem ds_wanted_place : d_wanted_place = p_wanted_place.strip := rfl
abbrev f_wanted_place : FD := ⟨"wanted_place", topS 2, d_wanted_place, ["house", "guest"], ["house", "guest"]⟩
def d_has_room : FnDef :=
  ⟨3, 3, .cons (.ret (.cmp .lt (.len (.idx (.var 1) (.var 2))) (.idx (.idx (.var 0) (.int 0)) (.var 2))))
    (.nil)⟩
theorem ds_has_room : d_has_room = p_has_room.strip := rfl
abbrev f_has_room : FD := ⟨"has_room", topS 3, d_has_room, ["house", "stand", "place"], ["house", "stand", "place"]⟩
def d_are_held : FnDef :=
  ⟨4, 5, .cons (.ret (.seq .all (.comp (.cmp .isin (.call "wanted_place" (.cons (.var 0) (.cons (.var 4) (.nil))) (.nil) []) (.var 3)) (.one 4) (.ex (.idx (.var 1) (.var 2))) (.nil))))
    (.nil)⟩
theorem ds_are_held : d_are_held = p_are_held.strip := rfl
abbrev f_are_held : FD := ⟨"are_held", topS 5, d_are_held, ["house", "stand", "place", "lot", "guest"], ["house", "stand", "place", "lot"]⟩
def d_stuck_lot : FnDef :=
  ⟨2, 5, .cons (.setT [2, 3] (.tup (.cons (.non) (.cons (.comp (.var 4) (.one 4) (.rng1 (.len (.var 1))) (.cons (.not (.call "has_room" (.cons (.var 0) (.cons (.var 1) (.cons (.var 4) (.nil)))) (.nil) [])) (.nil))) (.nil)))))
    (.cons (.whl (.cmp .ne (.var 3) (.var 2))
    (.cons (.set 2 (.var 3))
    (.cons (.set 3 (.comp (.var 4) (.one 4) (.ex (.var 2)) (.cons (.call "are_held" (.cons (.var 0) (.cons (.var 1) (.cons (.var 4) (.cons (.var 2) (.nil))))) (.nil) []) (.nil))))
    (.nil))))
    (.cons (.ret (.seq .tuple (.var 2)))
    (.nil)))⟩
theorem ds_stuck_lot : d_stuck_lot = p_stuck_lot.strip := rfl
abbrev f_stuck_lot : FD := ⟨"stuck_lot", topS 6, d_stuck_lot, ["house", "stand", "lot", "later", "place"], ["house", "stand"]⟩
abbrev f__law_box : FD := ⟨"_law_box", topS 8, kBox 17033 9203 88001, ["script", "k", "cell", "great"], ["script", "k"]⟩
abbrev f__law_take : FD := ⟨"_law_take", topS 9, kTake 101 17, ["box", "many", "digit", "raw"], ["box", "many"]⟩
def d__law_pick : FnDef :=
  ⟨2, 2, .cons (.ret (.idx (.var 1) (.call "_law_take" (.cons (.var 0) (.cons (.len (.var 1)) (.nil))) (.nil) [])))
    (.nil)⟩
theorem ds__law_pick : d__law_pick = p__law_pick.strip := rfl
abbrev f__law_pick : FD := ⟨"_law_pick", topS 10, d__law_pick, ["box", "some"], ["box", "some"]⟩
def d__law_house : FnDef :=
  ⟨2, 14, .cons (.setT [2, 3] (.tup (.cons (.bin .add (.int 2) (.call "_law_take" (.cons (.var 0) (.cons (.bin .sub (.var 1) (.int 1)) (.nil))) (.nil) [])) (.cons (.call "_law_take" (.cons (.var 0) (.cons (.int 4) (.nil))) (.nil) []) (.nil)))))
    (.cons (.set 4 (.seq .tuple (.comp (.bin .add (.int 1) (.call "_law_take" (.cons (.var 0) (.cons (.idx (.lst (.cons (.int 1) (.cons (.int 2) (.cons (.int 3) (.cons (.int 6) (.nil)))))) (.var 3)) (.nil))) (.nil) [])) (.one 5) (.rng1 (.var 2)) (.nil))))
    (.cons (.set 6 (.min2 (.int 24) (.bin .add (.var 2) (.call "_law_pick" (.cons (.var 0) (.cons (.lst (.cons (.int 0) (.cons (.int 2) (.cons (.int 5) (.cons (.int 8) (.cons (.int 20) (.nil))))))) (.nil))) (.nil) []))))
    (.cons (.set 7 (.comp (.ite (.and (.cmp .lt (.var 8) (.var 2)) (.cmp .ne (.var 3) (.int 2))) (.var 8) (.call "_law_take" (.cons (.var 0) (.cons (.var 2) (.nil))) (.nil) [])) (.one 8) (.rng1 (.var 6)) (.nil)))
    (.cons (.setT [9, 10] (.tup (.cons (.call "_law_pick" (.cons (.var 0) (.cons (.lst (.cons (.int 2) (.cons (.int 5) (.cons (.int 20) (.cons (.int 60) (.nil)))))) (.nil))) (.nil) []) (.cons (.lst (.nil)) (.nil)))))
    (.cons (.for_ (.one 8) (.rng1 (.var 6))
    (.cons (.set 11 (.bin .add (.int 1) (.call "_law_take" (.cons (.var 0) (.cons (.int 3) (.nil))) (.nil) [])))
    (.cons (.set 12 (.comp (.var 13) (.one 13) (.rng1 (.var 6)) (.cons (.and (.cmp .ne (.idx (.var 7) (.var 13)) (.idx (.var 7) (.var 8))) (.cmp .lt (.call "_law_take" (.cons (.var 0) (.cons (.var 6) (.nil))) (.nil) []) (.var 11))) (.nil))))
    (.cons (.ite (.or (.cmp .eq (.len (.var 12)) (.int 0)) (.cmp .eq (.call "_law_take" (.cons (.var 0) (.cons (.var 9) (.nil))) (.nil) []) (.int 0)))
    (.cons (.set 12 (.bin .add (.lst (.cons (.bin .sub (.int 0) (.int 1)) (.nil))) (.var 12)))
    (.nil))
    (.nil))
    (.cons (.expr (.meth1 .append (.var 10) (.tup (.cons (.idx (.var 7) (.var 8)) (.cons (.seq .tuple (.var 12)) (.nil))))))
    (.nil))))))
    (.cons (.ret (.tup (.cons (.var 4) (.cons (.seq .tuple (.var 10)) (.nil)))))
    (.nil)))))))⟩
theorem ds__law_house : d__law_house = p_houseB.strip := rfl
abbrev f__law_house : FD := ⟨"_law_house", topS 11, d__law_house, ["box", "most", "places", "way", "seats", "place", "many", "spots", "stage", "outs", "stages", "much", "nexts", "after"], ["box", "most"]⟩
def d__law_stand : FnDef :=
  ⟨3, 11, .cons (.setT [3, 4] (.tup (.cons (.int 40) (.cons (.lst (.nil)) (.nil)))))
    (.cons (.for_ (.one 5) (.rng1 (.len (.idx (.var 1) (.int 0))))
    (.cons (.set 6 (.comp (.var 7) (.one 7) (.rng1 (.len (.idx (.var 1) (.int 1)))) (.cons (.cmp .eq (.idx (.idx (.idx (.var 1) (.int 1)) (.var 7)) (.int 0)) (.var 5)) (.nil))))
    (.cons (.set 8 (.ite (.cmp .lt (.call "_law_take" (.cons (.var 0) (.cons (.int 5) (.nil))) (.nil) []) (.var 2)) (.idx (.idx (.var 1) (.int 0)) (.var 5)) (.call "_law_take" (.cons (.var 0) (.cons (.bin .add (.idx (.idx (.var 1) (.int 0)) (.var 5)) (.int 1)) (.nil))) (.nil) [])))
    (.cons (.set 9 (.lst (.nil)))
    (.cons (.for_ (.one 10) (.rng1 (.ite (.cmp .gt (.len (.var 6)) (.int 0)) (.min2 (.var 8) (.var 3)) (.int 0)))
    (.cons (.set 7 (.call "_law_pick" (.cons (.var 0) (.cons (.var 6) (.nil))) (.nil) []))
    (.cons (.expr (.meth1 .append (.var 9) (.tup (.cons (.var 7) (.cons (.call "_law_pick" (.cons (.var 0) (.cons (.idx (.idx (.idx (.var 1) (.int 1)) (.var 7)) (.int 1)) (.nil))) (.nil) []) (.nil))))))
    (.nil))))
    (.cons (.set 3 (.bin .sub (.var 3) (.len (.var 9))))
    (.cons (.expr (.meth1 .append (.var 4) (.seq .tuple (.seq .sorted (.var 9)))))
    (.nil))))))))
    (.cons (.ret (.seq .tuple (.var 4)))
    (.nil)))⟩
theorem ds__law_stand : d__law_stand = p_standB.strip := rfl
abbrev f__law_stand : FD := ⟨"_law_stand", topS 12, d__law_stand, ["box", "house", "crowd", "left", "rows", "place", "some", "stage", "many", "guests", "turn"], ["box", "house", "crowd"]⟩
def d__law_wants : FnDef :=
  ⟨2, 2, .cons (.ret (.ite (.cmp .lt (.idx (.var 1) (.int 1)) (.int 0)) (.non) (.idx (.idx (.idx (.var 0) (.int 1)) (.idx (.var 1) (.int 1))) (.int 0))))
    (.nil)⟩
theorem ds__law_wants : d__law_wants = p__law_wants.strip := rfl
abbrev f__law_wants : FD := ⟨"_law_wants", topS 13, d__law_wants, ["house", "guest"], ["house", "guest"]⟩
def d__law_is_full : FnDef :=
  ⟨3, 3, .cons (.ret (.cmp .eq (.len (.idx (.var 1) (.var 2))) (.idx (.idx (.var 0) (.int 0)) (.var 2))))
    (.nil)⟩
theorem ds__law_is_full : d__law_is_full = p__law_is_full.strip := rfl
abbrev f__law_is_full : FD := ⟨"_law_is_full", topS 14, d__law_is_full, ["house", "stand", "place"], ["house", "stand", "place"]⟩
def d__law_peeled : FnDef :=
  ⟨2, 7, .cons (.set 2 (.comp (.var 3) (.one 3) (.rng1 (.len (.var 1))) (.cons (.call "_law_is_full" (.cons (.var 0) (.cons (.var 1) (.cons (.var 3) (.nil)))) (.nil) []) (.nil))))
    (.cons (.for_ (.one 4) (.rng1 (.bin .add (.len (.var 1)) (.int 1)))
    (.cons (.set 5 (.lst (.nil)))
    (.cons (.for_ (.one 3) (.ex (.var 2))
    (.cons (.ite (.cmp .gt (.len (.comp (.var 6) (.one 6) (.ex (.idx (.var 1) (.var 3))) (.cons (.cmp .notin (.call "_law_wants" (.cons (.var 0) (.cons (.var 6) (.nil))) (.nil) []) (.var 2)) (.nil)))) (.int 0))
    (.cons (.expr (.meth1 .append (.var 5) (.var 3)))
    (.nil))
    (.nil))
    (.nil)))
    (.cons (.set 2 (.comp (.var 3) (.one 3) (.ex (.var 2)) (.cons (.cmp .notin (.var 3) (.var 5)) (.nil))))
    (.cons (.ite (.cmp .eq (.len (.var 5)) (.int 0))
    (.cons (.brk)
    (.nil))
    (.nil))
    (.nil))))))
    (.cons (.ret (.seq .tuple (.var 2)))
    (.nil)))⟩
theorem ds__law_peeled : d__law_peeled = p__law_peeled.strip := rfl
abbrev f__law_peeled : FD := ⟨"_law_peeled", topS 15, d__law_peeled, ["house", "stand", "left", "place", "turn", "gone", "guest"], ["house", "stand"]⟩
def d__law_is_stuck : FnDef :=
  ⟨3, 5, .cons (.for_ (.one 3) (.ex (.var 2))
    (.cons (.ite (.not (.call "_law_is_full" (.cons (.var 0) (.cons (.var 1) (.cons (.var 3) (.nil)))) (.nil) []))
    (.cons (.ret (.bl false))
    (.nil))
    (.nil))
    (.cons (.ite (.cmp .gt (.len (.comp (.var 4) (.one 4) (.ex (.idx (.var 1) (.var 3))) (.cons (.cmp .notin (.call "_law_wants" (.cons (.var 0) (.cons (.var 4) (.nil))) (.nil) []) (.var 2)) (.nil)))) (.int 0))
    (.cons (.ret (.bl false))
    (.nil))
    (.nil))
    (.nil))))
    (.cons (.ret (.cmp .gt (.len (.var 2)) (.int 0)))
    (.nil))⟩
theorem ds__law_is_stuck : d__law_is_stuck = p__law_is_stuck.strip := rfl
abbrev f__law_is_stuck : FD := ⟨"_law_is_stuck", topS 16, d__law_is_stuck, ["house", "stand", "lot", "place", "guest"], ["house", "stand", "lot"]⟩
def d__law_lots : FnDef :=
  ⟨2, 7, .cons (.setT [2, 3] (.tup (.cons (.comp (.var 4) (.one 4) (.rng1 (.len (.var 1))) (.cons (.call "_law_is_full" (.cons (.var 0) (.cons (.var 1) (.cons (.var 4) (.nil)))) (.nil) []) (.nil))) (.cons (.lst (.nil)) (.nil)))))
    (.cons (.set 5 (.lst (.cons (.tup (.nil)) (.nil))))
    (.cons (.for_ (.one 4) (.ex (.var 2))
    (.cons (.set 5 (.bin .add (.var 5) (.comp (.bin .add (.var 6) (.tup (.cons (.var 4) (.nil)))) (.one 6) (.ex (.var 5)) (.nil))))
    (.nil)))
    (.cons (.for_ (.one 6) (.ex (.var 5))
    (.cons (.ite (.call "_law_is_stuck" (.cons (.var 0) (.cons (.var 1) (.cons (.var 6) (.nil)))) (.nil) [])
    (.cons (.expr (.meth1 .append (.var 3) (.var 6)))
    (.nil))
    (.nil))
    (.nil)))
    (.cons (.ret (.var 3))
    (.nil)))))⟩
theorem ds__law_lots : d__law_lots = p__law_lots.strip := rfl
abbrev f__law_lots : FD := ⟨"_law_lots", topS 17, d__law_lots, ["house", "stand", "full", "found", "place", "rows", "row"], ["house", "stand"]⟩
def d__law_typed : FnDef :=
  ⟨0, 5, .cons (.set 0 (.tup (.cons (.int 1) (.cons (.int 1) (.cons (.int 2) (.cons (.int 1) (.cons (.int 1) (.nil))))))))
    (.cons (.set 1 (.tup (.cons (.tup (.cons (.int 0) (.cons (.tup (.cons (.int 1) (.nil))) (.nil)))) (.cons (.tup (.cons (.int 1) (.cons (.tup (.cons (.int 0) (.cons (.int 2) (.nil)))) (.nil)))) (.cons (.tup (.cons (.int 2) (.cons (.tup (.cons (.int 0) (.cons (.int 3) (.nil)))) (.nil)))) (.cons (.tup (.cons (.int 3) (.cons (.tup (.cons (.int 4) (.nil))) (.nil)))) (.cons (.tup (.cons (.int 4) (.cons (.tup (.cons (.neg (.int 1)) (.cons (.int 2) (.cons (.int 3) (.nil))))) (.nil)))) (.nil))))))))
    (.cons (.set 2 (.tup (.cons (.var 0) (.cons (.var 1) (.nil)))))
    (.cons (.set 3 (.lst (.cons (.tup (.cons (.tup (.cons (.int 0) (.cons (.int 1) (.nil)))) (.nil))) (.cons (.tup (.cons (.tup (.cons (.int 1) (.cons (.int 0) (.nil)))) (.nil))) (.cons (.tup (.cons (.tup (.cons (.int 2) (.cons (.int 0) (.nil)))) (.cons (.tup (.cons (.int 2) (.cons (.int 0) (.nil)))) (.nil)))) (.cons (.tup (.cons (.tup (.cons (.int 3) (.cons (.int 4) (.nil)))) (.nil))) (.cons (.tup (.cons (.tup (.cons (.int 4) (.cons (.int 3) (.nil)))) (.nil))) (.nil))))))))
    (.cons (.set 4 (.lst (.cons (.seq .tuple (.var 3)) (.cons (.seq .tuple (.bin .add (.slc (.var 3) (.non) (.int 4)) (.lst (.cons (.tup (.nil)) (.nil))))) (.cons (.seq .tuple (.bin .add (.bin .add (.slc (.var 3) (.non) (.int 2)) (.lst (.cons (.tup (.nil)) (.nil)))) (.slc (.var 3) (.int 3) (.non)))) (.cons (.seq .tuple (.bin .add (.slc (.var 3) (.non) (.int 4)) (.lst (.cons (.tup (.cons (.tup (.cons (.int 4) (.cons (.neg (.int 1)) (.nil)))) (.nil))) (.nil))))) (.cons (.tup (.cons (.tup (.nil)) (.cons (.tup (.nil)) (.cons (.tup (.nil)) (.cons (.tup (.nil)) (.cons (.tup (.nil)) (.nil))))))) (.nil))))))))
    (.cons (.set 4 (.bin .add (.var 4) (.lst (.cons (.seq .tuple (.bin .add (.bin .add (.slc (.var 3) (.non) (.int 2)) (.lst (.cons (.tup (.cons (.tup (.cons (.int 2) (.cons (.int 3) (.nil)))) (.nil))) (.nil)))) (.slc (.var 3) (.int 3) (.non)))) (.cons (.seq .tuple (.bin .add (.lst (.cons (.tup (.nil)) (.nil))) (.slc (.var 3) (.int 1) (.non)))) (.cons (.tup (.cons (.tup (.cons (.tup (.cons (.int 0) (.cons (.int 1) (.nil)))) (.nil))) (.cons (.tup (.cons (.tup (.cons (.int 1) (.cons (.int 2) (.nil)))) (.nil))) (.cons (.tup (.cons (.tup (.cons (.int 2) (.cons (.int 0) (.nil)))) (.cons (.tup (.cons (.int 2) (.cons (.int 3) (.nil)))) (.nil)))) (.cons (.tup (.nil)) (.cons (.tup (.nil)) (.nil))))))) (.nil)))))))
    (.cons (.ret (.tup (.cons (.var 2) (.cons (.bin .add (.var 4) (.lst (.cons (.tup (.cons (.tup (.cons (.tup (.cons (.int 0) (.cons (.int 1) (.nil)))) (.nil))) (.cons (.tup (.cons (.tup (.cons (.int 1) (.cons (.int 2) (.nil)))) (.nil))) (.cons (.tup (.cons (.tup (.cons (.int 2) (.cons (.int 0) (.nil)))) (.cons (.tup (.cons (.int 2) (.cons (.int 3) (.nil)))) (.nil)))) (.cons (.tup (.cons (.tup (.cons (.int 3) (.cons (.int 4) (.nil)))) (.nil))) (.cons (.tup (.cons (.tup (.cons (.int 4) (.cons (.int 2) (.nil)))) (.nil))) (.nil))))))) (.cons (.tup (.cons (.tup (.cons (.tup (.cons (.int 0) (.cons (.int 1) (.nil)))) (.nil))) (.cons (.tup (.cons (.tup (.cons (.int 1) (.cons (.int 2) (.nil)))) (.nil))) (.cons (.tup (.cons (.tup (.cons (.int 2) (.cons (.int 0) (.nil)))) (.cons (.tup (.cons (.int 2) (.cons (.int 0) (.nil)))) (.nil)))) (.cons (.tup (.nil)) (.cons (.tup (.nil)) (.nil))))))) (.nil))))) (.nil)))))
    (.nil)))))))⟩
theorem ds__law_typed : d__law_typed = p__law_typed.strip := rfl
abbrev f__law_typed : FD := ⟨"_law_typed", topS 18, d__law_typed, ["seats", "stages", "house", "some", "rows"], []⟩
def d__law_same : FnDef :=
  ⟨2, 4, .cons (.ite (.isi (.var 1) .tuple)
    (.cons (.ite (.or (.not (.isi (.var 0) .tuple)) (.cmp .ne (.len (.var 0)) (.len (.var 1))))
    (.cons (.ret (.bl false))
    (.nil))
    (.nil))
    (.cons (.for_ (.many [2, 3]) (.zip (.var 0) (.var 1))
    (.cons (.ite (.not (.call "_law_same" (.cons (.var 2) (.cons (.var 3) (.nil))) (.nil) []))
    (.cons (.ret (.bl false))
    (.nil))
    (.nil))
    (.nil)))
    (.cons (.ret (.bl true))
    (.nil))))
    (.nil))
    (.cons (.ite (.cmp .is (.var 1) (.non))
    (.cons (.ret (.cmp .is (.var 0) (.non)))
    (.nil))
    (.nil))
    (.cons (.ite (.or (.cmp .is (.var 1) (.bl true)) (.cmp .is (.var 1) (.bl false)))
    (.cons (.ret (.and (.isi (.var 0) .bool) (.cmp .eq (.var 0) (.var 1))))
    (.nil))
    (.nil))
    (.cons (.ite (.isi (.var 1) .int)
    (.cons (.ret (.and (.isi (.var 0) .int) (.and (.not (.isi (.var 0) .bool)) (.cmp .eq (.var 0) (.var 1)))))
    (.nil))
    (.nil))
    (.cons (.ret (.and (.isi (.var 0) .str) (.and (.isi (.var 1) .str) (.cmp .eq (.var 0) (.var 1)))))
    (.nil)))))⟩
theorem ds__law_same : d__law_same = p__law_same.strip := rfl
abbrev f__law_same : FD := ⟨"_law_same", topS 19, d__law_same, ["told", "due", "one", "other"], ["told", "due"]⟩
def d__law_chain : FnDef :=
  ⟨2, 5, .cons (.set 2 (.seq .tuple (.comp (.tup (.cons (.var 3) (.cons (.tup (.cons (.neg (.int 1)) (.cons (.bin .mod (.int1 (.bin .add (.var 3) (.int 1))) (.var 0)) (.nil)))) (.nil)))) (.one 3) (.rng1 (.var 0)) (.nil))))
    (.cons (.set 4 (.seq .tuple (.comp (.tup (.cons (.tup (.cons (.var 3) (.cons (.ite (.cmp .eq (.var 3) (.var 1)) (.neg (.int 1)) (.bin .mod (.int1 (.bin .add (.var 3) (.int 1))) (.var 0))) (.nil)))) (.nil))) (.one 3) (.rng1 (.var 0)) (.nil))))
    (.cons (.ret (.tup (.cons (.tup (.cons (.bin .mul (.tup (.cons (.int 1) (.nil))) (.var 0)) (.cons (.var 2) (.nil)))) (.cons (.var 4) (.nil)))))
    (.nil)))⟩
theorem ds__law_chain : d__law_chain = p__law_chain.strip := rfl
abbrev f__law_chain : FD := ⟨"_law_chain", topS 20, d__law_chain, ["many", "turned", "stages", "place", "rows"], ["many", "turned"]⟩
def d__law_looked : FnDef :=
  ⟨2, 6, .cons (.set 2 (.call "_law_peeled" (.cons (.var 0) (.cons (.var 1) (.nil))) (.nil) []))
    (.cons (.ite (.not (.call "_law_same" (.cons (.call "stuck_lot" (.cons (.var 0) (.cons (.var 1) (.nil))) (.nil) []) (.cons (.var 2) (.nil))) (.nil) []))
    (.cons (.ret (.bl false))
    (.nil))
    (.nil))
    (.cons (.ite (.cmp .gt (.len (.comp (.var 3) (.one 3) (.rng1 (.len (.var 1))) (.cons (.call "_law_is_full" (.cons (.var 0) (.cons (.var 1) (.cons (.var 3) (.nil)))) (.nil) []) (.nil)))) (.int 6))
    (.cons (.ret (.bl true))
    (.nil))
    (.nil))
    (.cons (.set 4 (.lst (.nil)))
    (.cons (.for_ (.one 5) (.ex (.call "_law_lots" (.cons (.var 0) (.cons (.var 1) (.nil))) (.nil) []))
    (.cons (.set 4 (.bin .add (.var 4) (.comp (.var 3) (.one 3) (.ex (.var 5)) (.cons (.cmp .notin (.var 3) (.var 4)) (.nil)))))
    (.nil)))
    (.cons (.ret (.cmp .eq (.seq .tuple (.seq .sorted (.var 4))) (.var 2)))
    (.nil))))))⟩
theorem ds__law_looked : d__law_looked = p__law_looked15.strip := rfl
abbrev f__law_looked : FD := ⟨"_law_looked", topS 21, d__law_looked, ["house", "stand", "due", "place", "found", "lot"], ["house", "stand"]⟩
def p_law : PFn :=
  ⟨1, 11, .cons [] (.setT [1, 2] (.call "_law_typed" (.nil) (.nil) []))
    (.cons [] (.for_ [3] (.one 3) (.ex (.var 2))
    (.cons [] (.ite (.not (.call "_law_looked" (.cons (.var 1) (.cons (.var 3) (.nil))) (.nil) []))
    (.cons [] (.ret (.bl false))
    (.nil))
    (.nil))
    (.nil)))
    (.cons [] (.for_ [3, 4, 5, 6] (.one 4) (.ex (.lst (.cons (.int 2) (.cons (.int 3) (.cons (.int 10) (.nil))))))
    (.cons [] (.for_ [3, 5, 6] (.one 5) (.ex (.lst (.cons (.non) (.cons (.int 0) (.cons (.bin .sub (.var 4) (.int 1)) (.nil))))))
    (.cons [] (.setT [6, 3] (.call "_law_chain" (.cons (.var 4) (.cons (.var 5) (.nil))) (.nil) []))
    (.cons [] (.ite (.or (.not (.call "_law_looked" (.cons (.var 6) (.cons (.var 3) (.nil))) (.nil) [])) (.not (.call "_law_same" (.cons (.call "stuck_lot" (.nil) (.cons (.var 6) (.cons (.var 3) (.nil))) []) (.cons (.ite (.cmp .isn (.var 5) (.non)) (.tup (.nil)) (.seq .tuple (.lrng (.int 0) (.var 4)))) (.nil))) (.nil) [])))
    (.cons [] (.ret (.bl false))
    (.nil))
    (.nil))
    (.nil))))
    (.nil)))
    (.cons [] (.for_ [1, 3, 7, 8, 9, 10] (.one 7) (.rng1 (.max2 (.int 4) (.min2 (.len (.var 0)) (.int 12))))
    (.cons [] (.set 8 (.call "_law_box" (.cons (.var 0) (.cons (.var 7) (.nil))) (.nil) []))
    (.cons [] (.for_ [1, 3, 9, 10] (.one 9) (.rng1 (.int 2))
    (.cons [] (.set 1 (.call "_law_house" (.cons (.var 8) (.cons (.int 10) (.nil))) (.nil) []))
    (.cons [] (.for_ [3, 10] (.one 10) (.ex (.lst (.cons (.int 5) (.cons (.int 4) (.cons (.int 2) (.nil))))))
    (.cons [] (.set 3 (.call "_law_stand" (.cons (.var 8) (.cons (.var 1) (.cons (.var 10) (.nil)))) (.nil) []))
    (.cons [] (.ite (.not (.call "_law_looked" (.cons (.var 1) (.cons (.var 3) (.nil))) (.nil) []))
    (.cons [] (.ret (.bl false))
    (.nil))
    (.nil))
    (.nil))))
    (.nil))))
    (.nil))))
    (.cons [] (.ret (.bl true))
    (.nil)))))⟩
def d_law : FnDef :=
  ⟨1, 11, .cons (.setT [1, 2] (.call "_law_typed" (.nil) (.nil) []))
    (.cons (.for_ (.one 3) (.ex (.var 2))
    (.cons (.ite (.not (.call "_law_looked" (.cons (.var 1) (.cons (.var 3) (.nil))) (.nil) []))
    (.cons (.ret (.bl false))
    (.nil))
    (.nil))
    (.nil)))
    (.cons (.for_ (.one 4) (.ex (.lst (.cons (.int 2) (.cons (.int 3) (.cons (.int 10) (.nil))))))
    (.cons (.for_ (.one 5) (.ex (.lst (.cons (.non) (.cons (.int 0) (.cons (.bin .sub (.var 4) (.int 1)) (.nil))))))
    (.cons (.setT [6, 3] (.call "_law_chain" (.cons (.var 4) (.cons (.var 5) (.nil))) (.nil) []))
    (.cons (.ite (.or (.not (.call "_law_looked" (.cons (.var 6) (.cons (.var 3) (.nil))) (.nil) [])) (.not (.call "_law_same" (.cons (.call "stuck_lot" (.nil) (.cons (.var 6) (.cons (.var 3) (.nil))) []) (.cons (.ite (.cmp .isn (.var 5) (.non)) (.tup (.nil)) (.seq .tuple (.lrng (.int 0) (.var 4)))) (.nil))) (.nil) [])))
    (.cons (.ret (.bl false))
    (.nil))
    (.nil))
    (.nil))))
    (.nil)))
    (.cons (.for_ (.one 7) (.rng1 (.max2 (.int 4) (.min2 (.len (.var 0)) (.int 12))))
    (.cons (.set 8 (.call "_law_box" (.cons (.var 0) (.cons (.var 7) (.nil))) (.nil) []))
    (.cons (.for_ (.one 9) (.rng1 (.int 2))
    (.cons (.set 1 (.call "_law_house" (.cons (.var 8) (.cons (.int 10) (.nil))) (.nil) []))
    (.cons (.for_ (.one 10) (.ex (.lst (.cons (.int 5) (.cons (.int 4) (.cons (.int 2) (.nil))))))
    (.cons (.set 3 (.call "_law_stand" (.cons (.var 8) (.cons (.var 1) (.cons (.var 10) (.nil)))) (.nil) []))
    (.cons (.ite (.not (.call "_law_looked" (.cons (.var 1) (.cons (.var 3) (.nil))) (.nil) []))
    (.cons (.ret (.bl false))
    (.nil))
    (.nil))
    (.nil))))
    (.nil))))
    (.nil))))
    (.cons (.ret (.bl true))
    (.nil)))))⟩
theorem ds_law : d_law = p_law.strip := rfl
abbrev f_law : FD := ⟨"law", topS 22, d_law, ["script", "house", "rows", "stand", "many", "turned", "ring", "k", "box", "turn", "crowd"], ["script"]⟩
def prog : List FD := [f_wanted_place, f_has_room, f_are_held, f_stuck_lot, f__law_box, f__law_take, f__law_pick, f__law_house, f__law_stand, f__law_wants, f__law_is_full, f__law_peeled, f__law_is_stuck, f__law_lots, f__law_typed, f__law_same, f__law_chain, f__law_looked, f_law]
def shp : List Sh := [⟨"_law_box", 2, [], []⟩, ⟨"_law_chain", 2, [], []⟩, ⟨"_law_house", 2, [], []⟩, ⟨"_law_is_full", 3, [], []⟩, ⟨"_law_is_stuck", 3, [], []⟩, ⟨"_law_looked", 2, [], []⟩, ⟨"_law_lots", 2, [], []⟩, ⟨"_law_peeled", 2, [], []⟩, ⟨"_law_pick", 2, [], []⟩, ⟨"_law_same", 2, [], []⟩, ⟨"_law_stand", 3, [], []⟩, ⟨"_law_take", 2, [], []⟩, ⟨"_law_typed", 0, [], []⟩, ⟨"_law_wants", 2, [], []⟩, ⟨"are_held", 4, [], []⟩, ⟨"has_room", 3, [], []⟩, ⟨"stuck_lot", 0, ["house", "stand"], []⟩, ⟨"stuck_lot", 2, [], []⟩, ⟨"wanted_place", 2, [], []⟩]
def gls : List Str := ["OUT"]
def bls : List Str := ["abs", "all", "bool", "int", "isinstance", "len", "list", "max", "min", "range", "sorted", "str", "tuple", "zip"]
def glo : Str → Option D := fun x =>
  if x = "OUT" then some (.int (-1))
  else none
def pl : List (Str × PFn) := [("wanted_place", p_wanted_place), ("has_room", p_has_room), ("are_held", p_are_held), ("stuck_lot", p_stuck_lot), ("_law_pick", p__law_pick), ("_law_house", p_houseB), ("_law_stand", p_standB), ("_law_wants", p__law_wants), ("_law_is_full", p__law_is_full), ("_law_peeled", p__law_peeled), ("_law_is_stuck", p__law_is_stuck), ("_law_lots", p__law_lots), ("_law_typed", p__law_typed), ("_law_same", p__law_same), ("_law_chain", p__law_chain), ("_law_looked", p__law_looked15), ("law", p_law)]
theorem chk_all : (prog.all fun f => f.chk shp gls bls) = true := by decide +kernel
theorem nd_all : (prog.map (·.nm)).Nodup := by decide +kernel
theorem sh_all : ∀ sh ∈ shp, ∃ f ∈ prog, f.nm = sh.f ∧ sh.B f :=
  all_cons ⟨f__law_box, List.mem_iff_getElem?.mpr ⟨4, rfl⟩, rfl, rfl, rfl, fun _ _ _ _ _ _ us ws h1 h2 => match us, ws, h1, h2 with
    | [_, _], [], _, _ => rfl⟩ (
  all_cons ⟨f__law_chain, List.mem_iff_getElem?.mpr ⟨16, rfl⟩, rfl, rfl, rfl, fun _ _ _ _ _ _ us ws h1 h2 => match us, ws, h1, h2 with
    | [_, _], [], _, _ => rfl⟩ (
  all_cons ⟨f__law_house, List.mem_iff_getElem?.mpr ⟨7, rfl⟩, rfl, rfl, rfl, fun _ _ _ _ _ _ us ws h1 h2 => match us, ws, h1, h2 with
    | [_, _], [], _, _ => rfl⟩ (
  all_cons ⟨f__law_is_full, List.mem_iff_getElem?.mpr ⟨10, rfl⟩, rfl, rfl, rfl, fun _ _ _ _ _ _ us ws h1 h2 => match us, ws, h1, h2 with
    | [_, _, _], [], _, _ => rfl⟩ (
  all_cons ⟨f__law_is_stuck, List.mem_iff_getElem?.mpr ⟨12, rfl⟩, rfl, rfl, rfl, fun _ _ _ _ _ _ us ws h1 h2 => match us, ws, h1, h2 with
    | [_, _, _], [], _, _ => rfl⟩ (
  all_cons ⟨f__law_looked, List.mem_iff_getElem?.mpr ⟨17, rfl⟩, rfl, rfl, rfl, fun _ _ _ _ _ _ us ws h1 h2 => match us, ws, h1, h2 with
    | [_, _], [], _, _ => rfl⟩ (
  all_cons ⟨f__law_lots, List.mem_iff_getElem?.mpr ⟨13, rfl⟩, rfl, rfl, rfl, fun _ _ _ _ _ _ us ws h1 h2 => match us, ws, h1, h2 with
    | [_, _], [], _, _ => rfl⟩ (
  all_cons ⟨f__law_peeled, List.mem_iff_getElem?.mpr ⟨11, rfl⟩, rfl, rfl, rfl, fun _ _ _ _ _ _ us ws h1 h2 => match us, ws, h1, h2 with
    | [_, _], [], _, _ => rfl⟩ (
  all_cons ⟨f__law_pick, List.mem_iff_getElem?.mpr ⟨6, rfl⟩, rfl, rfl, rfl, fun _ _ _ _ _ _ us ws h1 h2 => match us, ws, h1, h2 with
    | [_, _], [], _, _ => rfl⟩ (
  all_cons ⟨f__law_same, List.mem_iff_getElem?.mpr ⟨15, rfl⟩, rfl, rfl, rfl, fun _ _ _ _ _ _ us ws h1 h2 => match us, ws, h1, h2 with
    | [_, _], [], _, _ => rfl⟩ (
  all_cons ⟨f__law_stand, List.mem_iff_getElem?.mpr ⟨8, rfl⟩, rfl, rfl, rfl, fun _ _ _ _ _ _ us ws h1 h2 => match us, ws, h1, h2 with
    | [_, _, _], [], _, _ => rfl⟩ (
  all_cons ⟨f__law_take, List.mem_iff_getElem?.mpr ⟨5, rfl⟩, rfl, rfl, rfl, fun _ _ _ _ _ _ us ws h1 h2 => match us, ws, h1, h2 with
    | [_, _], [], _, _ => rfl⟩ (
  all_cons ⟨f__law_typed, List.mem_iff_getElem?.mpr ⟨14, rfl⟩, rfl, rfl, rfl, fun _ _ _ _ _ _ us ws h1 h2 => match us, ws, h1, h2 with
    | [], [], _, _ => rfl⟩ (
  all_cons ⟨f__law_wants, List.mem_iff_getElem?.mpr ⟨9, rfl⟩, rfl, rfl, rfl, fun _ _ _ _ _ _ us ws h1 h2 => match us, ws, h1, h2 with
    | [_, _], [], _, _ => rfl⟩ (
  all_cons ⟨f_are_held, List.mem_iff_getElem?.mpr ⟨2, rfl⟩, rfl, rfl, rfl, fun _ _ _ _ _ _ us ws h1 h2 => match us, ws, h1, h2 with
    | [_, _, _, _], [], _, _ => rfl⟩ (
  all_cons ⟨f_has_room, List.mem_iff_getElem?.mpr ⟨1, rfl⟩, rfl, rfl, rfl, fun _ _ _ _ _ _ us ws h1 h2 => match us, ws, h1, h2 with
    | [_, _, _], [], _, _ => rfl⟩ (
  all_cons ⟨f_stuck_lot, List.mem_iff_getElem?.mpr ⟨3, rfl⟩, rfl, rfl, rfl, fun _ _ _ _ _ _ us ws h1 h2 => match us, ws, h1, h2 with
    | [], [_, _], _, _ => rfl⟩ (
  all_cons ⟨f_stuck_lot, List.mem_iff_getElem?.mpr ⟨3, rfl⟩, rfl, rfl, rfl, fun _ _ _ _ _ _ us ws h1 h2 => match us, ws, h1, h2 with
    | [_, _], [], _, _ => rfl⟩ (
  all_cons ⟨f_wanted_place, List.mem_iff_getElem?.mpr ⟨0, rfl⟩, rfl, rfl, rfl, fun _ _ _ _ _ _ us ws h1 h2 => match us, ws, h1, h2 with
    | [_, _], [], _, _ => rfl⟩ (
  all_nil)))))))))))))))))))
theorem ok_all {K : PySem.W.Frag} {h : Heap} {mg : Str → Option Value} (KX : K.In h) (G : h.Ns mainGlobals mg)
    (ha : ∀ f ∈ prog, FD.At K mg f) (hg : GlOk K mg glo gls) (hb : ∀ b ∈ bls, mg b = none) : AllOk K mg (tabOf prog) glo prog shp gls bls :=
  ⟨tab_of nd_all, List.all_eq_true.mp chk_all, ha, sh_all, hg, hb⟩
theorem glo_fl : ∀ (x : Str) (d : D), glo x = some d → d.fl = true := by
  intro x d h
  unfold glo at h
  (repeat' split at h) <;> first | (cases h; rfl) | cases h
theorem tb (i : Nat) (f : FD) (h : prog[i]? = some f) : tabOf prog f.nm = some f.d := tab_of nd_all f (List.mem_iff_getElem?.mpr ⟨i, h⟩)
theorem nd_pl : (pl.map (·.1)).Nodup := by decide +kernel
theorem tab_ok : TabOk (tabOf prog) (tabP pl) :=
  ⟨⟨_, _, tb 5 f__law_take rfl⟩, ⟨_, _, _, tb 4 f__law_box rfl, by decide, by decide, by decide⟩, tabP_cons ((tb 0 f_wanted_place rfl).trans (congrArg some ds_wanted_place)) (tabP_cons ((tb 1 f_has_room rfl).trans (congrArg some ds_has_room)) (tabP_cons ((tb 2 f_are_held rfl).trans (congrArg some ds_are_held)) (tabP_cons ((tb 3 f_stuck_lot rfl).trans (congrArg some ds_stuck_lot)) (tabP_cons ((tb 6 f__law_pick rfl).trans (congrArg some ds__law_pick)) (tabP_cons ((tb 7 f__law_house rfl).trans (congrArg some ds__law_house)) (tabP_cons ((tb 8 f__law_stand rfl).trans (congrArg some ds__law_stand)) (tabP_cons ((tb 9 f__law_wants rfl).trans (congrArg some ds__law_wants)) (tabP_cons ((tb 10 f__law_is_full rfl).trans (congrArg some ds__law_is_full)) (tabP_cons ((tb 11 f__law_peeled rfl).trans (congrArg some ds__law_peeled)) (tabP_cons ((tb 12 f__law_is_stuck rfl).trans (congrArg some ds__law_is_stuck)) (tabP_cons ((tb 13 f__law_lots rfl).trans (congrArg some ds__law_lots)) (tabP_cons ((tb 14 f__law_typed rfl).trans (congrArg some ds__law_typed)) (tabP_cons ((tb 15 f__law_same rfl).trans (congrArg some ds__law_same)) (tabP_cons ((tb 16 f__law_chain rfl).trans (congrArg some ds__law_chain)) (tabP_cons ((tb 17 f__law_looked rfl).trans (congrArg some ds__law_looked)) (tabP_cons ((tb 18 f_law rfl).trans (congrArg some ds_law)) (tabP_nil)))))))))))))))))⟩
def ringDue (m : Nat) (t : Option Int) : List Int := if t = none then (List.range m).map fun (k : Nat) => (k : Int) else []
theorem ring_ok : ∀ m ∈ ([2, 3, 10] : List Nat), ∀ t ∈ [none, some 0, some ((m : Int) - 1)], Hok (ringS m) (ringSt m) ∧ Sok (ringS m) (ringSt m) (ringR m t) ∧ IsGreat (ringS m) (ringSt m) (ringR m t) (ringDue m t) := by
  have h : (([2, 3, 10] : List Nat).all fun m => [none, some 0, some ((m : Int) - 1)].all fun t => hokB (ringS m) (ringSt m) && sokB (ringS m) (ringSt m) (ringR m t) && decide (peelN (ringS m) (ringSt m) (ringR m t) 11 = peelN (ringS m) (ringSt m) (ringR m t) 10) && decide (peelN (ringS m) (ringSt m) (ringR m t) 10 = ringDue m t)) = true := by decide +kernel
  intro m hm t ht
  rw [List.all_eq_true] at h
  have h := h m hm
  rw [List.all_eq_true] at h
  have h := h t ht
  simp only [Bool.and_eq_true, decide_eq_true_eq] at h
  obtain ⟨⟨⟨h1, h2⟩, h3⟩, h4⟩ := h
  exact ⟨hok_of h1, sok_of h2, by rw [← h4]; exact great_peelN h3⟩
section
variable {TP : PTab} {Γ : Str → Option D} {n : Nat}
theorem law_p (t : TB TP Γ) (hH : TP "are_held" = some p_are_held) (hL : TP "stuck_lot" = some p_stuck_lot) (hK : TP "_law_looked" = some p__law_looked15) (hC : TP "_law_chain" = some p__law_chain) (hT : TP "_law_typed" = some p__law_typed) (hW : TP "law" = some p_law)
    (typed : xss (fun _ _ => none) Γ p__law_typed.body [none, none, none, none, none] = some (.rt (.val (.tup [hD tyS tySt, .frl (tyRows.map sD)])))) (ns : List Int) (h : ns.length ≤ 63) : callP TP Γ (n + 9) "law" [.newS (ns.map .int)] (fun r => r = .val (.bl true)) noX := by
  refine pcall hW (by decide) (by decide) rfl ?_
  simp [p_law]
  refine pcall_x hT (by decide) (by decide) rfl typed ?_
  simp
  refine for_st (l := tyRows) (e := sD) (fun _ : Unit => [some (.fz, .newS (ns.map .int)), some (.fz, .val (hD tyS tySt)), some (.fz, .newL (tyRows.map sD)), none, none, none, none, none, none, none, none]) (fun _ _ => True) (s0 := ()) trivial (fun i s _ nx es _ hnx => ?_) (fun _ _ => ?_)
  · simp [pbody]
    exact looked15_p t hH hL hK tyHok (tySok s (List.mem_of_getElem? es)) (by simp; exact hnx () _ trivial rfl)
  try (set_option simprocs false in simp)
  refine for_st (l := ([2, 3, 10] : List Nat)) (e := fun (m : Nat) => D.int m) (fun _ : Unit => [some (.fz, .newS (ns.map .int)), some (.fz, .val (hD tyS tySt)), some (.fz, .newL (tyRows.map sD)), none, none, none, none, none, none, none, none]) (fun _ _ => True) (s0 := ()) trivial (fun i m _ nx em _ hnx => ?_) (fun _ _ => ?_)
  · have hm := List.mem_of_getElem? em
    have hm2 : 2 ≤ m ∧ m ≤ 1000 := by simp at hm; omega
    simp [pbody]
    refine for_st (l := [none, some 0, some ((m : Int) - 1)]) (e := optD) (fun _ : Unit => [some (.fz, .newS (ns.map .int)), some (.fz, .val (hD tyS tySt)), some (.fz, .newL (tyRows.map sD)), none, some (.fz, .val (.int m)), none, none, none, none, none, none]) (fun _ _ => True) (s0 := ()) trivial (fun j o _ nx' eo _ hnx' => ?_) (fun _ _ => ?_)
    · obtain ⟨r1, r2, r3⟩ := ring_ok m hm o (List.mem_of_getElem? eo)
      simp [pbody]
      refine chain_p hC hm2 ?_
      simp
      refine looked15_p t hH hL hK r1 r2 ?_
      simp
      refine stuck_lot_p t.wanted t.room hH hL t.out r1 r2 fun l hl => ?_
      have := great_unique hl r3
      subst this
      have fin : callP TP Γ (n + 8) "_law_same" [.val (.tup ((ringDue m o).map .int)), .val (.tup ((ringDue m o).map .int))] (fun x => Bif x (nx' [some (.fz, .newS (ns.map .int)), some (.fz, .val (hD tyS tySt)), some (.fz, .newL (tyRows.map sD)), some (.fz, .val (sD (ringR m o))), some (.fz, .val (.int m)), some (.fz, .val (optD o)), some (.fz, .val (hD (ringS m) (ringSt m))), none, none, none, none]) False) fun c d => noX c d :=
        same_self t.same 1 (tiD (ringDue m o)) (n + 8) _ _ dok_tI (by omega) (hnx' () _ trivial rfl)
      split
      · rename_i ho
        refine ⟨by unfold LIM; omega, ?_⟩
        have e : (List.range m).map (fun (k : Nat) => D.int k) = (ringDue m o).map .int := by rw [map_nat]; simp [ringDue, ho]
        rw [e]
        exact fin
      · rename_i ho
        have e : ([] : List D) = (ringDue m o).map .int := by simp [ringDue, ho]
        have fin := fin
        rw [← e] at fin ⊢
        exact fin
    · exact hnx () _ trivial rfl
  try (set_option simprocs false in simp)
  have hb : 4 ≤ (if 4 < if 12 < (ns.length : Int) then (12 : Int) else ns.length then if 12 < (ns.length : Int) then (12 : Int) else ns.length else 4) ∧ (if 4 < if 12 < (ns.length : Int) then (12 : Int) else ns.length then if 12 < (ns.length : Int) then (12 : Int) else ns.length else 4) ≤ 12 := by
    repeat' split
    all_goals omega
  generalize (if 4 < if 12 < (ns.length : Int) then (12 : Int) else ns.length then if 12 < (ns.length : Int) then (12 : Int) else ns.length else 4) = kk at hb ⊢
  refine ⟨by unfold LIM; omega, ?_⟩
  refine for_st (l := List.range kk.toNat) (e := fun (k : Nat) => D.int k) (fun _ : Unit => [some (.fz, .newS (ns.map .int)), none, some (.fz, .newL (tyRows.map sD)), none, none, none, none, none, none, none, none]) (fun _ _ => True) (s0 := ()) trivial (fun i k _ nx ek _ hnx => ?_) (fun _ _ => ?_)
  · obtain ⟨rfl, hk⟩ := get_range ek
    simp [pbody]
    refine call_box h (by omega) (by omega) ?_
    refine ⟨by unfold LIM; omega, ?_⟩
    refine for_st (l := List.range 2) (e := fun (k : Nat) => D.int k) (fun _ : Unit => [some (.fz, .newS (ns.map .int)), none, some (.fz, .newL (tyRows.map sD)), none, none, none, none, some (.fz, .val (.int k)), some (.fz, .val (.ref 0)), none, none]) (fun _ _ => True) (s0 := ()) trivial (fun j _ _ nx' ej _ hnx' => ?_) (fun _ _ => ?_)
    · simp [pbody]
      refine houseB_p t.pick t.house (by omega) fun seats st ok _ _ _ => ?_
      try (set_option simprocs false in simp)
      refine for_st (l := ([5, 4, 2] : List Int)) (e := D.int) (fun _ : Unit => [some (.fz, .newS (ns.map .int)), some (.fz, .val (hD seats st)), some (.fz, .newL (tyRows.map sD)), none, none, none, none, some (.fz, .val (.int k)), some (.fz, .val (.ref 0)), some (.fz, .val (.int _)), none]) (fun _ _ => True) (s0 := ()) trivial (fun j c _ nx2 ec _ hnx2 => ?_) (fun _ _ => ?_)
      · simp [pbody]
        refine standB_p t.pick t.stand ok fun s hs => ?_
        exact looked15_p t hH hL hK ok hs (by simp; exact hnx2 () _ trivial rfl)
      · exact hnx' () _ trivial rfl
    · exact hnx () _ trivial rfl
  · simp
end
theorem tB : TB (tabP pl) glo := ⟨tabP_of 0 nd_pl rfl, tabP_of 1 nd_pl rfl, tabP_of 7 nd_pl rfl, tabP_of 8 nd_pl rfl, tabP_of 9 nd_pl rfl, tabP_of 10 nd_pl rfl, tabP_of 11 nd_pl rfl, tabP_of 13 nd_pl rfl, tabP_of 4 nd_pl rfl, tabP_of 5 nd_pl rfl, tabP_of 6 nd_pl rfl, by decide⟩
theorem typed : xss (fun _ _ => none) glo p__law_typed.body [none, none, none, none, none] = some (.rt (.val (.tup [hD tyS tySt, .frl (tyRows.map sD)]))) := xval_eq (by decide +kernel)
theorem holds (ns : List Int) (h : ns.length ≤ 63) : ∃ G', callF (tabOf prog) glo 60 "law" [.frl (ns.map .int)] [] = .ok (.bl true) G' :=
  law_holds tab_ok glo_fl (law_p (n := 51) tB (tabP_of 2 nd_pl rfl) (tabP_of 3 nd_pl rfl) (tabP_of 15 nd_pl rfl) (tabP_of 14 nd_pl rfl) (tabP_of 12 nd_pl rfl) (tabP_of 16 nd_pl rfl) typed ns h)
end K15

open PySem PySem.W PyProof.Rows
set_option maxHeartbeats 0 in
theorem PySem.Challenge.cw_lookonce_k15_the_greatest_stuck_lot_holds : PySem.Challenge.rw_lookonce_k15_the_greatest_stuck_lot.Holds := by
  w_on; o_law; k_head; (case hw => w_witness2)
  k_fill
  refine L2.walk_of (l := PySem.Challenge.rw_lookonce_k15_the_greatest_stuck_lot) (n := 63) (k := 60) (x := "script") (CX := fun _ => L2.CX0) (sp := fun w => LK.spL PySem.Challenge.rw_lookonce_k15_the_greatest_stuck_lot.prog w _ LK.XC0 (LK.callF (LK.tabOf K15.prog) K15.glo 60) "law" 1) rfl (by decide) rfl ⟨rfl, by decide, by decide⟩ (fun w h Y => PySem.W.kIn_of Y) ?F (fun w H a ns hl hO hS => by obtain ⟨G', e⟩ := K15.holds ns hl; exact LK.law_sp hO hS e) (fun _ _ _ _ _ h => h)
  case F =>
    intro w mg fa h KX G hmg
    refine' LK.law_ok (f := K15.f_law) (K15.ok_all KX G (LK.all_cons (LK.at_mk KX G ?a0 ?l0 ?c0 ?k0) (LK.all_cons (LK.at_mk KX G ?a1 ?l1 ?c1 ?k1) (LK.all_cons (LK.at_mk KX G ?a2 ?l2 ?c2 ?k2) (LK.all_cons (LK.at_mk KX G ?a3 ?l3 ?c3 ?k3) (LK.all_cons (LK.at_mk KX G ?a4 ?l4 ?c4 ?k4) (LK.all_cons (LK.at_mk KX G ?a5 ?l5 ?c5 ?k5) (LK.all_cons (LK.at_mk KX G ?a6 ?l6 ?c6 ?k6) (LK.all_cons (LK.at_mk KX G ?a7 ?l7 ?c7 ?k7) (LK.all_cons (LK.at_mk KX G ?a8 ?l8 ?c8 ?k8) (LK.all_cons (LK.at_mk KX G ?a9 ?l9 ?c9 ?k9) (LK.all_cons (LK.at_mk KX G ?a10 ?l10 ?c10 ?k10) (LK.all_cons (LK.at_mk KX G ?a11 ?l11 ?c11 ?k11) (LK.all_cons (LK.at_mk KX G ?a12 ?l12 ?c12 ?k12) (LK.all_cons (LK.at_mk KX G ?a13 ?l13 ?c13 ?k13) (LK.all_cons (LK.at_mk KX G ?a14 ?l14 ?c14 ?k14) (LK.all_cons (LK.at_mk KX G ?a15 ?l15 ?c15 ?k15) (LK.all_cons (LK.at_mk KX G ?a16 ?l16 ?c16 ?k16) (LK.all_cons (LK.at_mk KX G ?a17 ?l17 ?c17 ?k17) (LK.all_cons (LK.at_mk KX G ?a18 ?l18 ?c18 ?k18) (LK.all_nil)))))))))))))))))))) (LK.all_cons (LK.gl_mk (i := (-1)) KX G (by decide) ?og0) (LK.all_nil)) (LK.all_cons (PySem.W.mg_none_of KX G ?b0) (LK.all_cons (PySem.W.mg_none_of KX G ?b1) (LK.all_cons (PySem.W.mg_none_of KX G ?b2) (LK.all_cons (PySem.W.mg_none_of KX G ?b3) (LK.all_cons (PySem.W.mg_none_of KX G ?b4) (LK.all_cons (PySem.W.mg_none_of KX G ?b5) (LK.all_cons (PySem.W.mg_none_of KX G ?b6) (LK.all_cons (PySem.W.mg_none_of KX G ?b7) (LK.all_cons (PySem.W.mg_none_of KX G ?b8) (LK.all_cons (PySem.W.mg_none_of KX G ?b9) (LK.all_cons (PySem.W.mg_none_of KX G ?b10) (LK.all_cons (PySem.W.mg_none_of KX G ?b11) (LK.all_cons (PySem.W.mg_none_of KX G ?b12) (LK.all_cons (PySem.W.mg_none_of KX G ?b13) (LK.all_nil)))))))))))))))) (List.mem_iff_getElem?.mpr ⟨18, rfl⟩) rfl hmg (fun _ _ _ _ _ _ _ => rfl)
    (case a0 => k_is); (case l0 => k_is); (case c0 => k_is); (case k0 => k_is)
    (case a1 => k_is); (case l1 => k_is); (case c1 => k_is); (case k1 => k_is)
    (case a2 => k_is); (case l2 => k_is); (case c2 => k_is); (case k2 => k_is)
    (case a3 => k_is); (case l3 => k_is); (case c3 => k_is); (case k3 => k_is)
    (case a4 => k_is); (case l4 => k_is); (case c4 => k_is); (case k4 => k_is)
    (case a5 => k_is); (case l5 => k_is); (case c5 => k_is); (case k5 => k_is)
    (case a6 => k_is); (case l6 => k_is); (case c6 => k_is); (case k6 => k_is)
    (case a7 => k_is); (case l7 => k_is); (case c7 => k_is); (case k7 => k_is)
    (case a8 => k_is); (case l8 => k_is); (case c8 => k_is); (case k8 => k_is)
    (case a9 => k_is); (case l9 => k_is); (case c9 => k_is); (case k9 => k_is)
    (case a10 => k_is); (case l10 => k_is); (case c10 => k_is); (case k10 => k_is)
    (case a11 => k_is); (case l11 => k_is); (case c11 => k_is); (case k11 => k_is)
    (case a12 => k_is); (case l12 => k_is); (case c12 => k_is); (case k12 => k_is)
    (case a13 => k_is); (case l13 => k_is); (case c13 => k_is); (case k13 => k_is)
    (case a14 => k_is); (case l14 => k_is); (case c14 => k_is); (case k14 => k_is)
    (case a15 => k_is); (case l15 => k_is); (case c15 => k_is); (case k15 => k_is)
    (case a16 => k_is); (case l16 => k_is); (case c16 => k_is); (case k16 => k_is)
    (case a17 => k_is); (case l17 => k_is); (case c17 => k_is); (case k17 => k_is)
    (case a18 => k_is); (case l18 => k_is); (case c18 => k_is); (case k18 => k_is)
    (case og0 => k_is)
    (case b0 => k_is)
    (case b1 => k_is)
    (case b2 => k_is)
    (case b3 => k_is)
    (case b4 => k_is)
    (case b5 => k_is)
    (case b6 => k_is)
    (case b7 => k_is)
    (case b8 => k_is)
    (case b9 => k_is)
    (case b10 => k_is)
    (case b11 => k_is)
    (case b12 => k_is)
    (case b13 => k_is)
