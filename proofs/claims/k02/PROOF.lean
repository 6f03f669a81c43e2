import PyProof.Rows.All
import HandS.ForMost
import KE.KeyNested
import KE.SortData
import KE.DataEq
import KE.DataCmp
import KE.DataFind
import KE.DataMinMax
import KE.DataAny
import HandS.TupMul
import HandS.Wide
import HandS.IsInst
import HandS.Conv
import KE.KDictCopyH
import KE.GoesEnum
import HandS.Zip
import HandS.DictComp
import HandS.Style
import PySem.Challenge.RW_lookonce_k02_steps_and_passes
set_option Elab.async false
set_option linter.all false
set_option autoImplicit false
/-! LkCore: a small language of data, lists and dicts, its evaluator. -/
namespace LK
open PySem

inductive D where
  | non | bl (b : Bool) | int (i : Int) | str (s : Str) | tup (xs : List D) | ref (n : Nat)
  /-- a list that nobody changes (the script) -/
  | frl (xs : List D)

namespace D
mutual
def beq : D → D → Bool
  | .non, .non => true
  | .bl a, .bl b => a == b
  | .int a, .int b => decide (a = b)
  | .str a, .str b => decide (a = b)
  | .tup xs, .tup ys => beqL xs ys
  | .ref a, .ref b => a == b
  | .frl xs, .frl ys => beqL xs ys
  | _, _ => false
def beqL : List D → List D → Bool
  | [], [] => true
  | x :: xs, y :: ys => beq x y && beqL xs ys
  | _, _ => false
end
mutual
theorem beq_self : ∀ a : D, beq a a = true
  | .non => rfl
  | .bl a => by simp [beq]
  | .int a => by simp [beq]
  | .str a => by simp [beq]
  | .ref a => by simp [beq]
  | .tup xs => by rw [beq]; exact beqL_self xs
  | .frl xs => by rw [beq]; exact beqL_self xs
theorem beqL_self : ∀ a : List D, beqL a a = true
  | [] => rfl
  | x :: xs => by rw [beqL, beq_self x, beqL_self xs]; rfl
end
mutual
theorem eq_of_beq : ∀ a b : D, beq a b = true → a = b
  | .non, b, h => by cases b <;> simp_all [beq]
  | .bl a, b, h => by cases b <;> simp_all [beq]
  | .int a, b, h => by cases b <;> simp_all [beq]
  | .str a, b, h => by cases b <;> simp_all [beq]
  | .ref a, b, h => by cases b <;> simp_all [beq]
  | .tup xs, b, h => by
    cases b with
    | tup ys => rw [beq] at h; rw [eq_of_beqL xs ys h]
    | _ => simp [beq] at h
  | .frl xs, b, h => by
    cases b with
    | frl ys => rw [beq] at h; rw [eq_of_beqL xs ys h]
    | _ => simp [beq] at h
theorem eq_of_beqL : ∀ a b : List D, beqL a b = true → a = b
  | [], b, h => by cases b <;> simp_all [beqL]
  | x :: xs, b, h => by
    cases b with
    | nil => simp [beqL] at h
    | cons y ys =>
      rw [beqL, Bool.and_eq_true] at h
      rw [eq_of_beq x y h.1, eq_of_beqL xs ys h.2]
end
instance : DecidableEq D := fun a b => if h : beq a b = true then isTrue (eq_of_beq a b h) else isFalse fun e => h (e ▸ beq_self a)

mutual
/-- Python's ==, of data without lists -/
def eqv : D → D → Bool
  | .non, .non => true
  | .bl a, .bl b => a == b
  | .bl a, .int j => (if a then 1 else 0) == j
  | .int i, .bl b => i == (if b then 1 else 0)
  | .int a, .int b => a == b
  | .str a, .str b => a == b
  | .tup xs, .tup ys => eqvL xs ys
  | _, _ => false
def eqvL : List D → List D → Bool
  | [], [] => true
  | x :: xs, y :: ys => eqv x y && eqvL xs ys
  | _, _ => false
end

/-- data of depth k at most, without lists -/
def dok : Nat → D → Bool
  | _, .ref _ => false
  | _, .frl _ => false
  | 0, .tup _ => false
  | k + 1, .tup xs => xs.all (dok k)
  | _, .non => true
  | _, .bl _ => true
  | _, .int _ => true
  | _, .str _ => true
/-- a key: a number, a text, a tuple of such -/
def kok : Nat → D → Bool
  | _, .int _ => true
  | _, .str _ => true
  | k + 1, .tup xs => xs.all (kok k)
  | _, _ => false

mutual
/-- every list that it names is among the first n -/
def low (n : Nat) : D → Bool
  | .ref m => decide (m < n)
  | .tup xs => lowL n xs
  | .frl xs => lowL n xs
  | .non => true
  | .bl _ => true
  | .int _ => true
  | .str _ => true
def lowL (n : Nat) : List D → Bool
  | [] => true
  | x :: xs => low n x && lowL n xs
end

mutual
def toPy : D → PyData
  | .non => .none
  | .bl b => .bool b
  | .int i => .int i
  | .str s => .str s
  | .tup xs => .tuple (toPyL xs)
  | .ref _ => .none
  | .frl xs => .list (toPyL xs)
def toPyL : List D → List PyData
  | [] => []
  | x :: xs => toPy x :: toPyL xs
end
def isTup : D → Bool
  | .tup _ => true
  | _ => false
end D

inductive Cell where
  | lst (ds : List D)
  | dct (t : Bool) (kvs : List (D × D))
  | set (ds : List D)
  deriving DecidableEq
abbrev Hpp := List Cell
abbrev Env := List (Option D)

inductive Res (α : Type) where
  | ok (a : α) (G : Hpp)
  | ex (c : Str) (d : D) (G : Hpp)
  | bad
def Res.bind {α β : Type} (r : Res α) (f : α → Hpp → Res β) : Res β :=
  match r with
  | .ok a G => f a G
  | .ex c d G => .ex c d G
  | .bad => .bad
inductive Fl where
  | nx (ρ : Env) (G : Hpp)
  | bk (ρ : Env) (G : Hpp)
  | ct (ρ : Env) (G : Hpp)
  | rt (d : D) (G : Hpp)
  | ex (c : Str) (d : D) (ρ : Env) (G : Hpp)
  | bad

inductive Walk where
  | fix (ds : List D)
  | cell (n : Nat)
  | rng (lo : Int) (n : Nat)
  | enum (w : Walk)
  | zip (w v : Walk)
inductive R where
  | val (d : D)
  | newL (ds : List D)
  | newD (t : Bool) (kvs : List (D × D))
  | newS (ds : List D)

inductive Bop where
  | add | sub | mul | fdiv | mod | pow | shl | shr | band | bor
  deriving DecidableEq
inductive Cop where
  | eq | ne | lt | le | gt | ge | is | isn | isin | notin
  deriving DecidableEq
/-- a built-in over a sequence -/
inductive Sb where
  | tuple | list | sorted | sortedR | sum | all | any | min | max | set | dict
  deriving DecidableEq
inductive Ty where
  | int | bool | str | tuple | list
  deriving DecidableEq
inductive Tg where
  | one (i : Nat) | many (js : List Nat)
  deriving DecidableEq
inductive M0 where
  | pop
  deriving DecidableEq
inductive M1 where
  | append | extend | remove | pop | index | count
  deriving DecidableEq

mutual
inductive E where
  | int (i : Int) | bl (b : Bool) | non | str (s : Str)
  | var (i : Nat) | glob (x : Str)
  | tup (es : Es) | lst (es : Es) | dnew (t : Bool)
  | bin (op : Bop) (a b : E) | neg (a : E)
  | cmp (op : Cop) (a b : E) | chain (o p : Cop) (a b c : E)
  | and (a b : E) | or (a b : E) | not (a : E) | ite (c a b : E)
  | idx (a i : E) | slc (a lo hi : E)
  | call (f : Str) (es ks : Es) (dd : List D)
  | len (a : E) | abs (a : E) | int1 (a : E) | min2 (a b : E) | max2 (a b : E) | isi (a : E) (t : Ty)
  | seq (b : Sb) (a : E) | lrng (a b : E)
  | comp (e : E) (tg : Tg) (i : I) (ifs : Es)
  | dcomp (t : Bool) (k v : E) (tg : Tg) (i : I) (ifs : Es)
  | meth0 (m : M0) (o : E) | meth1 (m : M1) (o a : E)
inductive Es where
  | nil | cons (e : E) (r : Es)
inductive I where
  | ex (e : E) | rng1 (a : E) | rng2 (a b : E) | enum (a : E) | zip (a b : E) | items (a : E)
end
mutual
inductive S where
  | set (i : Nat) (e : E) | setT (js : List Nat) (e : E) | setI (o i e : E)
  | aug (i : Nat) (op : Bop) (e : E) | augI (o i : E) (op : Bop) (e : E)
  | expr (e : E) | ret (e : E) | retN
  | ite (c : E) (a b : Ss) | whl (c : E) (b : Ss) | for_ (tg : Tg) (i : I) (b : Ss)
  | brk | cnt | pass
  | raise (c : Str) (a : E)
  | try_ (b : Ss) (c : Str) (i : Nat) (h : Ss)
inductive Ss where
  | nil | cons (s : S) (r : Ss)
end
structure FnDef where
  np : Nat
  ns : Nat
  body : Ss

/-! ### values -/
/-- the longest list -/
def LIM : Nat := 1000000
def toD : R → Hpp → Res D
  | .val d, G => .ok d G
  | .newL ds, G => .ok (.ref G.length) (G ++ [.lst ds])
  | .newD t kvs, G => .ok (.ref G.length) (G ++ [.dct t kvs])
  | .newS ds, G => .ok (.ref G.length) (G ++ [.set ds])
/-- a list's items -/
def lstM : R → Hpp → Option (List D)
  | .newL ds, _ => some ds
  | .val (.ref n), G => match G[n]? with
    | some (.lst ds) => some ds
    | _ => none
  | _, _ => none
/-- .. that may be known -/
def lstOf : R → Hpp → Option (List D)
  | .val (.frl ds), _ => some ds
  | r, G => lstM r G
/-- a list's or a tuple's items -/
def seqOf : R → Hpp → Option (List D)
  | .val (.tup ds), _ => some ds
  | r, G => lstOf r G
inductive View where
  | sc (d : D) | ls (ds : List D)
def viewOf : R → Hpp → Option View
  | .val (.ref n), G => (lstOf (.val (.ref n)) G).map .ls
  | .val (.frl ds), _ => some (.ls ds)
  | .val d, _ => some (.sc d)
  | .newL ds, _ => some (.ls ds)
  | _, _ => none
def mulOk (i j : Int) : Bool := (decide (-(2 ^ 64) < i) && decide (i < 2 ^ 64)) || (decide (-(2 ^ 64) < j) && decide (j < 2 ^ 64))
def okV (d : D) (G : Hpp) : Res R := .ok (.val d) G
def repL (ds : List D) (k : Int) : List D := (List.replicate k.toNat ds).flatten
def binI (op : Bop) (i j : Int) (G : Hpp) : Res R :=
  match op with
  | .add => okV (.int (i + j)) G
  | .sub => okV (.int (i - j)) G
  | .mul => if mulOk i j = true then okV (.int (i * j)) G else .bad
  | .fdiv => if j ≠ 0 ∧ j.natAbs < 1073741824 then okV (.int (i.fdiv j)) G else .bad
  | .mod => if j ≠ 0 then okV (.int (i.fmod j)) G else .bad
  | .pow => if 0 ≤ j ∧ j ≤ 1000 ∧ i.natAbs < 2 ^ 64 then okV (.int (i ^ j.toNat)) G else .bad
  | .shl => if 0 ≤ j ∧ j ≤ 1000 ∧ i.natAbs < 2 ^ 64 then okV (.int (i * 2 ^ j.toNat)) G else .bad
  | .shr => if 0 ≤ j then okV (.int (i / 2 ^ j.toNat)) G else .bad
  | .band => okV (.int (Builtin.bitAnd i j)) G
  | .bor => okV (.int (Builtin.bitOr i j)) G
def binR (op : Bop) (r q : R) (G : Hpp) : Res R :=
  match r, q with
  | .val (.int i), .val (.int j) => binI op i j G
  | .val (.tup xs), .val (.tup ys) => match op with
    | .add => if xs.length + ys.length ≤ LIM then okV (.tup (xs ++ ys)) G else .bad
    | _ => .bad
  | .val (.tup xs), .val (.int k) => match op with
    | .mul => if 2 ≤ k ∧ k ≤ 1000 ∧ xs.length ≤ 1000 ∧ xs ≠ [] then okV (.tup (repL xs k)) G else .bad
    | _ => .bad
  | .val (.str x), .val (.str y) => match op with
    | .add => if x.length + y.length ≤ LIM then okV (.str (x ++ y)) G else .bad
    | _ => .bad
  | r, .val (.int k) => match lstM r G, op with
    | some xs, .mul => if 0 ≤ k ∧ k ≤ 1000 ∧ xs.length ≤ 1000 then .ok (.newL (repL xs k)) G else .bad
    | _, _ => .bad
  | r, q => match lstM r G, lstM q G, op with
    | some xs, some ys, .add => if xs.length + ys.length ≤ LIM then .ok (.newL (xs ++ ys)) G else .bad
    | _, _, _ => .bad
/-- one tuple lies behind the other, in Python's order -/
def ltD (a b : D) : Bool := W.dataLt a.toPy b.toPy
def alikeD (a b : D) : Bool := D.dok 60 a && D.dok 60 b && W.alike a.toPy b.toPy && decide (a ≠ .non)
def eqR (r q : R) (G : Hpp) : Option Bool :=
  match r, q with
  | .val (.int i), .val (.int j) => some (decide (i = j))
  | .val (.bl i), .val (.bl j) => some (decide (i = j))
  | .val (.str i), .val (.str j) => some (decide (i = j))
  | r, q => match viewOf r G, viewOf q G with
    | some (.sc a), some (.sc b) => if (D.dok 60 a && D.dok 60 b) = true then some (D.eqv a b) else none
    | some (.ls xs), some (.ls ys) => if (xs.all (D.dok 60) && ys.all (D.dok 60)) = true then some (D.eqvL xs ys) else none
    | some (.sc a), some (.ls ys) => if (D.dok 60 a && ys.all (D.dok 60)) = true then some false else none
    | some (.ls xs), some (.sc b) => if (xs.all (D.dok 60) && D.dok 60 b) = true then some false else none
    | _, _ => none
def isR (r q : R) : Option Bool :=
  match r, q with
  | .val a, .val .non => some (decide (a = .non))
  | .newL _, .val .non => some false
  | .val a, .val (.bl b) => some (decide (a = .bl b))
  | _, _ => none
def dfind (kvs : List (D × D)) (k : D) : Option D := (kvs.find? fun p => decide (p.1 = k)).map (·.2)
def keyFor (t : Bool) (k : D) : Bool := D.kok 8 k && (k.isTup == t)
def inR (x q : R) (G : Hpp) : Option Bool :=
  match x, q with
  | .val d, .val (.ref n) => match G[n]? with
    | some (.dct t kvs) => if keyFor t d = true then some (dfind kvs d).isSome else none
    | some (.lst ds) => if (D.dok 60 d && ds.all (D.dok 60)) = true then some (ds.any fun z => D.eqv z d) else none
    | _ => none
  | .val d, .val (.tup ds) => if (D.dok 60 d && ds.all (D.dok 60)) = true then some (ds.any fun z => D.eqv z d) else none
  | .val d, .newL ds => if (D.dok 60 d && ds.all (D.dok 60)) = true then some (ds.any fun z => D.eqv z d) else none
  | _, _ => none
def ordR (op : Cop) (r q : R) : Option Bool :=
  match r, q with
  | .val (.int i), .val (.int j) => match op with
    | .lt => some (decide (i < j))
    | .le => some (decide (i ≤ j))
    | .gt => some (decide (j < i))
    | .ge => some (decide (j ≤ i))
    | _ => none
  | .val a, .val b => if alikeD a b = true then match op with
    | .lt => some (ltD a b)
    | .le => some (!ltD b a)
    | .gt => some (ltD b a)
    | .ge => some (!ltD a b)
    | _ => none else none
  | _, _ => none
def cmpR (op : Cop) (r q : R) (G : Hpp) : Option Bool :=
  match op with
  | .eq => eqR r q G
  | .ne => (eqR r q G).map (!·)
  | .is => isR r q
  | .isn => (isR r q).map (!·)
  | .isin => inR r q G
  | .notin => (inR r q G).map (!·)
  | _ => ordR op r q
def optB (o : Option Bool) (G : Hpp) : Res R := match o with
  | some b => okV (.bl b) G
  | none => .bad
def idxR (r q : R) (G : Hpp) : Res R :=
  match r, q with
  | .val (.ref n), .val k => match G[n]? with
    | some (.dct t kvs) => if keyFor t k = true then match dfind kvs k with
      | some v => okV v G
      | none => .bad else .bad
    | some (.lst ds) => match k with
      | .int i => match L2.atI ds i with
        | some d => okV d G
        | none => .bad
      | _ => .bad
    | _ => .bad
  | r, .val (.int i) => match seqOf r G with
    | some ds => match L2.atI ds i with
      | some d => okV d G
      | none => .bad
    | none => .bad
  | _, _ => .bad
def cutD (ds : List D) (lo hi : Option Int) : List D :=
  (ds.drop (HT.sIx ds.length 0 lo)).take (HT.sIx ds.length ds.length hi - HT.sIx ds.length 0 lo)
def cutR (r : R) (l h : Option Int) (G : Hpp) : Res R :=
  match r with
  | .val (.tup ds) => okV (.tup (cutD ds l h)) G
  | r => match lstOf r G with
    | some ds => .ok (.newL (cutD ds l h)) G
    | none => .bad
def lenR (r : R) (G : Hpp) : Res R :=
  match r with
  | .val (.str s) => if s.length ≤ LIM then okV (.int s.length) G else .bad
  | .val (.ref n) => match G[n]? with
    | some (.lst ds) => okV (.int ds.length) G
    | _ => .bad
  | r => match seqOf r G with
    | some ds => okV (.int ds.length) G
    | none => .bad
def isiR (r : R) (t : Ty) (G : Hpp) : Option Bool :=
  match r with
  | .val .non => some false
  | .val (.bl _) => some (t == .bool || t == .int)
  | .val (.int _) => some (t == .int)
  | .val (.str _) => some (t == .str)
  | .val (.tup _) => some (t == .tuple)
  | .val (.ref n) => match G[n]? with
    | some (.lst _) => some (t == .list)
    | _ => none
  | .val (.frl _) => some (t == .list)
  | .newL _ => some (t == .list)
  | _ => none
/-- what a walk yields at turn i -/
inductive It3 where
  | stop | yld (d : D) | bad
def Walk.item : Walk → Nat → Hpp → It3
  | .fix ds, i, _ => match ds[i]? with
    | some d => .yld d
    | none => .stop
  | .cell n, i, G => match G[n]? with
    | some (.lst ds) => match ds[i]? with
      | some d => .yld d
      | none => .stop
    | _ => .bad
  | .rng lo n, i, _ => if i < n then .yld (.int (lo + i)) else .stop
  | .enum w, i, G => match w.item i G with
    | .yld d => .yld (.tup [.int i, d])
    | o => o
  | .zip w v, i, G => match w.item i G, v.item i G with
    | .bad, _ => .bad
    | _, .bad => .bad
    | .yld d, .yld e => .yld (.tup [d, e])
    | _, _ => .stop
def Walk.size : Walk → Hpp → Nat
  | .fix ds, _ => ds.length
  | .cell n, G => match G[n]? with
    | some (.lst ds) => ds.length
    | _ => 0
  | .rng _ n, _ => n
  | .enum w, G => w.size G
  | .zip w v, G => min (w.size G) (v.size G)
def R.isTup : R → Bool
  | .val (.tup _) => true
  | _ => false
def toWalk (r : R) (G : Hpp) : Res Walk :=
  match r with
  | .val (.tup ds) => .ok (.fix ds) G
  | .val (.ref n) => match G[n]? with
    | some (.lst _) => .ok (.cell n) G
    | _ => .bad
  | .newL ds => .ok (.fix ds) G
  | .val (.frl ds) => .ok (.fix ds) G
  | _ => .bad
def setSlot (ρ : Env) (i : Nat) (d : D) : Env := ρ.set i (some d)
def setSlots : Env → List Nat → List D → Option Env
  | ρ, [], [] => some ρ
  | ρ, i :: is, d :: ds => setSlots (ρ.set i (some d)) is ds
  | _, _, _ => none
def bindTg (tg : Tg) (d : D) (ρ : Env) : Option Env :=
  match tg with
  | .one i => some (ρ.set i (some d))
  | .many is => match d with
    | .tup ds => setSlots ρ is ds
    | _ => none
def noEx {α : Type} (r : Res α) : Res α := match r with
  | .ok a G => .ok a G
  | _ => .bad
/-- a comprehension's loop: acc holds what is made -/
def compF (f : D → Hpp → Res (Option D)) (w : Walk) : Nat → Nat → List D → Hpp → Res (List D)
  | 0, _, _, _ => .bad
  | n + 1, i, acc, G => match w.item i G with
    | .stop => .ok acc G
    | .bad => .bad
    | .yld d => (f d G).bind fun o G1 => match o with
      | some x => if acc.length < LIM then compF f w n (i + 1) (acc ++ [x]) G1 else .bad
      | none => compF f w n (i + 1) acc G1
def dput (kvs : List (D × D)) (k v : D) : List (D × D) :=
  if (dfind kvs k).isSome then kvs.map fun p => if p.1 = k then (p.1, v) else p else kvs ++ [(k, v)]
def dcompF (f : D → Hpp → Res (Option (D × D))) (w : Walk) : Nat → Nat → List (D × D) → Hpp → Res (List (D × D))
  | 0, _, _, _ => .bad
  | n + 1, i, acc, G => match w.item i G with
    | .stop => .ok acc G
    | .bad => .bad
    | .yld d => (f d G).bind fun o G1 => match o with
      | some (k, v) => if keyFor false k = true ∧ acc.length < LIM then dcompF f w n (i + 1) (dput acc k v) G1 else .bad
      | none => dcompF f w n (i + 1) acc G1
/-- a comprehension's turn: fT its tests, fE its item -/
def compV (tg : Tg) (fT : Env → Hpp → Res Bool) (fE : Env → Hpp → Res R) (ρ : Env) (d : D) (G : Hpp) : Res (Option D) :=
  match bindTg tg d ρ with
  | some ρ1 => (noEx (fT ρ1 G)).bind fun b G3 => if b = true then (noEx ((fE ρ1 G3).bind toD)).bind fun x G4 => .ok (some x) G4 else .ok none G3
  | none => .bad
def dcompV (tg : Tg) (fT : Env → Hpp → Res Bool) (fK fE : Env → Hpp → Res R) (ρ : Env) (d : D) (G : Hpp) : Res (Option (D × D)) :=
  match bindTg tg d ρ with
  | some ρ1 => (noEx (fT ρ1 G)).bind fun b G3 => if b = true then (noEx ((fK ρ1 G3).bind toD)).bind fun x G4 => (noEx ((fE ρ1 G4).bind toD)).bind fun y G5 => .ok (some (x, y)) G5 else .ok none G3
  | none => .bad
def intsOf : List D → Option (List Int)
  | [] => some []
  | .int i :: r => (intsOf r).map (i :: ·)
  | _ => none
def blsOf : List D → Option (List Bool)
  | [] => some []
  | .bl i :: r => (blsOf r).map (i :: ·)
  | _ => none
def leD (a b : D) : Bool := !ltD b a
def alikeAllD (ds : List D) : Bool := ds.all fun a => ds.all fun b => alikeD a b
def minD : D → List D → D
  | x, [] => x
  | x, y :: r => minD (if ltD y x then y else x) r
def maxD : D → List D → D
  | x, [] => x
  | x, y :: r => maxD (if ltD x y then y else x) r
/-- sorted takes numbers, texts, tuples that are not empty -/
def sortOk (ds : List D) : Bool := alikeAllD ds && (ds.all fun d => match d with
  | .tup [] => false
  | _ => true)
def seqC (b : Sb) (ds : List D) (G : Hpp) : Res R :=
  match b with
  | .list => .ok (.newL ds) G
  | .sorted => if sortOk ds = true then .ok (.newL (ds.mergeSort leD)) G else .bad
  | _ => .bad
def seqT (b : Sb) (ds : List D) (G : Hpp) : Res R :=
  match b with
  | .tuple => okV (.tup ds) G
  | .min => match ds with
    | x :: r => if alikeAllD (x :: r) = true then okV (minD x r) G else .bad
    | [] => .bad
  | .max => match ds with
    | x :: r => if alikeAllD (x :: r) = true then okV (maxD x r) G else .bad
    | [] => .bad
  | b => seqC b ds G
def seqL (b : Sb) (ds : List D) (G : Hpp) : Res R :=
  match b with
  | .sum => match intsOf ds with
    | some is => okV (.int is.sum) G
    | none => .bad
  | .all => match blsOf ds with
    | some bs => okV (.bl (bs.all id)) G
    | none => .bad
  | .any => match blsOf ds with
    | some bs => okV (.bl (bs.any id)) G
    | none => .bad
  | b => seqT b ds G
def seqR (b : Sb) (r : R) (G : Hpp) : Res R :=
  match r with
  | .val (.tup ds) => seqT b ds G
  | .val (.frl ds) => seqL b ds G
  | .newL ds => seqL b ds G
  | .val (.ref n) => match G[n]? with
    | some (.lst ds) => seqL b ds G
    | some (.dct _ kvs) => seqC b (kvs.map (·.1)) G
    | _ => .bad
  | .newD _ kvs => seqC b (kvs.map (·.1)) G
  | _ => .bad
def meth1R (m : M1) (o a : R) (G : Hpp) : Res R :=
  match m, o with
  | .append, .val (.ref n) => match G[n]? with
    | some (.lst ds) => if ds.length < LIM then (toD a G).bind fun d G1 => .ok (.val .non) (G1.set n (.lst (ds ++ [d]))) else .bad
    | _ => .bad
  | .extend, .val (.ref n) => match G[n]?, lstM a G with
    | some (.lst ds), some xs => if ds.length + xs.length ≤ LIM then .ok (.val .non) (G.set n (.lst (ds ++ xs))) else .bad
    | _, _ => .bad
  | .remove, .val (.ref n) => match G[n]?, a with
    | some (.lst ds), .val d => if (D.dok 60 d && ds.all (D.dok 60)) = true then match ds.findIdx? (fun z => D.eqv z d) with
      | some j => .ok (.val .non) (G.set n (.lst (ds.eraseIdx j)))
      | none => .bad else .bad
    | _, _ => .bad
  | .pop, .val (.ref n) => match G[n]?, a with
    | some (.lst ds), .val (.int i) => match L2.ixN ds.length i with
      | some j => match ds[j]? with
        | some d => .ok (.val d) (G.set n (.lst (ds.eraseIdx j)))
        | none => .bad
      | none => .bad
    | _, _ => .bad
  | _, _ => .bad
def meth0R (m : M0) (o : R) (G : Hpp) : Res R :=
  match m, o with
  | .pop, .val (.ref n) => match G[n]? with
    | some (.lst ds) => match ds.getLast? with
      | some d => .ok (.val d) (G.set n (.lst ds.dropLast))
      | none => .bad
    | _ => .bad
  | _, _ => .bad

/-- a part of a slice: absent, or a number -/
def partF (e : E) (f : Hpp → Res R) (G : Hpp) : Res (Option Int) :=
  match e with
  | .non => .ok none G
  | _ => (f G).bind fun r G1 => match r with
    | .val (.int i) => .ok (some i) G1
    | _ => .bad
abbrev CallF := Str → List D → Hpp → Res D
section
variable (C : CallF) (Γ : Str → Option D)
mutual
def ev : E → Env → Hpp → Res R
  | .int i, _, G => okV (.int i) G
  | .bl b, _, G => okV (.bl b) G
  | .non, _, G => okV .non G
  | .str s, _, G => okV (.str s) G
  | .var i, ρ, G => match ρ[i]? with
    | some (some d) => okV d G
    | _ => .bad
  | .glob x, _, G => match Γ x with
    | some d => okV d G
    | none => .bad
  | .tup es, ρ, G => (evs es ρ G).bind fun ds G1 => okV (.tup ds) G1
  | .lst es, ρ, G => (evs es ρ G).bind fun ds G1 => .ok (.newL ds) G1
  | .dnew t, _, G => .ok (.newD t []) G
  | .bin op a b, ρ, G => (ev a ρ G).bind fun x G1 => (ev b ρ G1).bind fun y G2 => binR op x y G2
  | .neg a, ρ, G => (ev a ρ G).bind fun x G1 => match x with
    | .val (.int i) => okV (.int (-i)) G1
    | _ => .bad
  | .cmp op a b, ρ, G => (ev a ρ G).bind fun x G1 => (ev b ρ G1).bind fun y G2 => optB (cmpR op x y G2) G2
  | .chain o p a b c, ρ, G => (ev a ρ G).bind fun x G1 => (ev b ρ G1).bind fun y G2 => match cmpR o x y G2 with
    | some true => (ev c ρ G2).bind fun z G3 => optB (cmpR p y z G3) G3
    | some false => okV (.bl false) G2
    | none => .bad
  | .and a b, ρ, G => (ev a ρ G).bind fun x G1 => match x with
    | .val (.bl true) => ev b ρ G1
    | .val (.bl false) => okV (.bl false) G1
    | _ => .bad
  | .or a b, ρ, G => (ev a ρ G).bind fun x G1 => match x with
    | .val (.bl true) => okV (.bl true) G1
    | .val (.bl false) => ev b ρ G1
    | _ => .bad
  | .not a, ρ, G => (ev a ρ G).bind fun x G1 => match x with
    | .val (.bl b) => okV (.bl (!b)) G1
    | _ => .bad
  | .ite c a b, ρ, G => (ev c ρ G).bind fun x G1 => match x with
    | .val (.bl true) => ev a ρ G1
    | .val (.bl false) => ev b ρ G1
    | _ => .bad
  | .idx a i, ρ, G => (ev a ρ G).bind fun x G1 => (ev i ρ G1).bind fun y G2 => idxR x y G2
  | .slc a lo hi, ρ, G => (ev a ρ G).bind fun x G1 => (partF lo (fun G2 => ev lo ρ G2) G1).bind fun l G2 => (partF hi (fun G3 => ev hi ρ G3) G2).bind fun h G3 => cutR x l h G3
  | .call f es ks dd, ρ, G => (evs es ρ G).bind fun ds G1 => (evs ks ρ G1).bind fun zs G2 => (C f (ds ++ zs ++ dd) G2).bind fun d G3 => okV d G3
  | .len a, ρ, G => (ev a ρ G).bind fun x G1 => lenR x G1
  | .abs a, ρ, G => (ev a ρ G).bind fun x G1 => match x with
    | .val (.int i) => okV (.int (if i < 0 then -i else i)) G1
    | _ => .bad
  | .int1 a, ρ, G => (ev a ρ G).bind fun x G1 => match x with
    | .val (.int i) => okV (.int i) G1
    | .val (.bl b) => okV (.int (if b then 1 else 0)) G1
    | _ => .bad
  | .min2 a b, ρ, G => (ev a ρ G).bind fun x G1 => (ev b ρ G1).bind fun y G2 => match x, y with
    | .val (.int i), .val (.int j) => okV (.int (if j < i then j else i)) G2
    | _, _ => .bad
  | .max2 a b, ρ, G => (ev a ρ G).bind fun x G1 => (ev b ρ G1).bind fun y G2 => match x, y with
    | .val (.int i), .val (.int j) => okV (.int (if j > i then j else i)) G2
    | _, _ => .bad
  | .isi a t, ρ, G => (ev a ρ G).bind fun x G1 => optB (isiR x t G1) G1
  | .seq b a, ρ, G => (ev a ρ G).bind fun x G1 => seqR b x G1
  | .lrng a b, ρ, G => (ev a ρ G).bind fun x G1 => (ev b ρ G1).bind fun y G2 => match x, y with
    | .val (.int i), .val (.int j) => if -(LIM : Int) ≤ i ∧ j ≤ LIM ∧ j - i ≤ LIM then .ok (.newL ((List.range (j - i).toNat).map fun (k : Nat) => .int (i + k))) G2 else .bad
    | _, _ => .bad
  | .comp e tg i ifs, ρ, G => (evI i ρ G).bind fun w G1 => (compF (compV tg (fun ρ G => evIf ifs ρ G) (fun ρ G => ev e ρ G) ρ) w (w.size G1 + 1) 0 [] G1).bind fun ds G2 => .ok (.newL ds) G2
  | .dcomp _ k v tg i ifs, ρ, G => (evI i ρ G).bind fun w G1 => (dcompF (dcompV tg (fun ρ G => evIf ifs ρ G) (fun ρ G => ev k ρ G) (fun ρ G => ev v ρ G) ρ) w (w.size G1 + 1) 0 [] G1).bind fun kvs G2 => .ok (.newD false kvs) G2
  | .meth0 m o, ρ, G => (ev o ρ G).bind fun x G1 => if (lstM x G1).isSome = true then meth0R m x G1 else .bad
  | .meth1 m o a, ρ, G => (ev o ρ G).bind fun x G1 => if (lstM x G1).isSome = true then (ev a ρ G1).bind fun y G2 => meth1R m x y G2 else .bad
def evs : Es → Env → Hpp → Res (List D)
  | .nil, _, G => .ok [] G
  | .cons e r, ρ, G => ((ev e ρ G).bind toD).bind fun d G1 => (evs r ρ G1).bind fun ds G2 => .ok (d :: ds) G2
/-- a comprehension's tests -/
def evIf : Es → Env → Hpp → Res Bool
  | .nil, _, G => .ok true G
  | .cons e r, ρ, G => (ev e ρ G).bind fun x G1 => match x with
    | .val (.bl true) => evIf r ρ G1
    | .val (.bl false) => .ok false G1
    | _ => .bad
def evI : I → Env → Hpp → Res Walk
  | .ex e, ρ, G => (ev e ρ G).bind toWalk
  | .rng1 a, ρ, G => (ev a ρ G).bind fun x G1 => match x with
    | .val (.int j) => if -(LIM : Int) ≤ j ∧ j ≤ LIM then .ok (.rng 0 j.toNat) G1 else .bad
    | _ => .bad
  | .rng2 a b, ρ, G => (ev a ρ G).bind fun x G1 => (ev b ρ G1).bind fun y G2 => match x, y with
    | .val (.int i), .val (.int j) => if (-(LIM : Int) ≤ i ∧ i ≤ LIM) ∧ -(LIM : Int) ≤ j ∧ j ≤ LIM then .ok (.rng i (j - i).toNat) G2 else .bad
    | _, _ => .bad
  | .enum a, ρ, G => (ev a ρ G).bind fun x G1 => (toWalk x G1).bind fun w G2 => .ok (.enum w) G2
  | .zip a b, ρ, G => (ev a ρ G).bind fun x G1 => (ev b ρ G1).bind fun y G2 => if x.isTup = y.isTup then (toWalk x G2).bind fun w G3 => (toWalk y G3).bind fun v G4 => .ok (.zip w v) G4 else .bad
  | .items _, _, _ => .bad
end
/-- a for's loop -/
def loopF (f : D → Env → Hpp → Fl) (w : Walk) : Nat → Nat → Env → Hpp → Fl
  | 0, _, _, _ => .bad
  | n + 1, i, ρ, G => match w.item i G with
    | .stop => .nx ρ G
    | .bad => .bad
    | .yld d => match f d ρ G with
      | .nx ρ1 G1 => loopF f w n (i + 1) ρ1 G1
      | .ct ρ1 G1 => loopF f w n (i + 1) ρ1 G1
      | .bk ρ1 G1 => .nx ρ1 G1
      | r => r
def whileF (c : Env → Hpp → Res R) (f : Env → Hpp → Fl) : Nat → Env → Hpp → Fl
  | 0, _, _ => .bad
  | n + 1, ρ, G => match c ρ G with
    | .ok (.val (.bl true)) G1 => match f ρ G1 with
      | .nx ρ1 G2 => whileF c f n ρ1 G2
      | .ct ρ1 G2 => whileF c f n ρ1 G2
      | .bk ρ1 G2 => .nx ρ1 G2
      | r => r
    | .ok (.val (.bl false)) G1 => .nx ρ G1
    | .ex cl d G1 => .ex cl d ρ G1
    | _ => .bad
def WF : Nat := 1000000
def resF {α : Type} (r : Res α) (ρ : Env) (f : α → Hpp → Fl) : Fl := match r with
  | .ok a G => f a G
  | .ex c d G => .ex c d ρ G
  | .bad => .bad
/-- o[i] = v -/
def setIR (o i : R) (v : D) (G : Hpp) : Option Hpp :=
  match o, i with
  | .val (.ref n), .val k => match G[n]? with
    | some (.dct t kvs) => if keyFor t k = true ∧ kvs.length < LIM then some (G.set n (.dct t (dput kvs k v))) else none
    | some (.lst ds) => match k with
      | .int j => match L2.ixN ds.length j with
        | some m => some (G.set n (.lst (ds.set m v)))
        | none => none
      | _ => none
    | _ => none
  | _, _ => none
mutual
def exS : S → Env → Hpp → Fl
  | .set i e, ρ, G => resF ((ev C Γ e ρ G).bind toD) ρ fun d G1 => .nx (ρ.set i (some d)) G1
  | .setT is e, ρ, G => resF (ev C Γ e ρ G) ρ fun x G1 => match x with
    | .val (.tup ds) => match setSlots ρ is ds with
      | some ρ1 => .nx ρ1 G1
      | none => .bad
    | _ => .bad
  | .setI o i e, ρ, G => resF ((ev C Γ e ρ G).bind toD) ρ fun d G1 => resF (ev C Γ o ρ G1) ρ fun x G2 => resF (ev C Γ i ρ G2) ρ fun y G3 => match setIR x y d G3 with
    | some G4 => .nx ρ G4
    | none => .bad
  | .aug i op e, ρ, G => match ρ[i]? with
    | some (some d) => resF (ev C Γ e ρ G) ρ fun y G1 => match d, y with
      | .int a, .val (.int b) => resF ((binI op a b G1).bind toD) ρ fun z G2 => .nx (ρ.set i (some z)) G2
      | _, _ => .bad
    | _ => .bad
  | .augI o i op e, ρ, G => resF (ev C Γ o ρ G) ρ fun x G1 => resF (ev C Γ i ρ G1) ρ fun y G2 => resF (idxR x y G2) ρ fun d G3 => resF (ev C Γ e ρ G3) ρ fun z G4 => match d, z with
    | .val (.int a), .val (.int b) => resF ((binI op a b G4).bind toD) ρ fun v G5 => match setIR x y v G5 with
      | some G6 => .nx ρ G6
      | none => .bad
    | _, _ => .bad
  | .expr e, ρ, G => resF (ev C Γ e ρ G) ρ fun _ G1 => .nx ρ G1
  | .ret e, ρ, G => resF ((ev C Γ e ρ G).bind toD) ρ fun d G1 => .rt d G1
  | .retN, _, G => .rt .non G
  | .ite c a b, ρ, G => resF (ev C Γ c ρ G) ρ fun x G1 => match x with
    | .val (.bl true) => exSs a ρ G1
    | .val (.bl false) => exSs b ρ G1
    | _ => .bad
  | .whl c b, ρ, G => whileF (fun ρ1 G1 => ev C Γ c ρ1 G1) (fun ρ1 G1 => exSs b ρ1 G1) WF ρ G
  | .for_ tg i b, ρ, G => resF (evI C Γ i ρ G) ρ fun w G1 => loopF (fun d ρ1 G2 => match bindTg tg d ρ1 with
    | some ρ2 => exSs b ρ2 G2
    | none => .bad) w (w.size G1 + 1) 0 ρ G1
  | .brk, ρ, G => .bk ρ G
  | .cnt, ρ, G => .ct ρ G
  | .pass, ρ, G => .nx ρ G
  | .raise c a, ρ, G => resF ((ev C Γ a ρ G).bind toD) ρ fun d G1 => .ex c d ρ G1
  | .try_ _ _ _ _, _, _ => .bad
def exSs : Ss → Env → Hpp → Fl
  | .nil, ρ, G => .nx ρ G
  | .cons s r, ρ, G => match exS s ρ G with
    | .nx ρ1 G1 => exSs r ρ1 G1
    | o => o
end
end

/-! ### calls -/
def Cell.low (n : Nat) : Cell → Bool
  | .lst ds => D.lowL n ds
  | .dct _ kvs => kvs.all fun p => D.low n p.1 && D.low n p.2
  | .set ds => D.lowL n ds
/-- the cells that stood before are as they were, or name old ones alone -/
def oldOk (G G1 : Hpp) : Bool := (List.range G.length).all fun i => decide (G1[i]? = G[i]?) || (match G1[i]? with
  | some c => c.low G.length
  | none => false)
/-- behind a call: new cells that the result does not name are forgotten -/
def gc (G : Hpp) (v : D) (G1 : Hpp) : Res D :=
  if oldOk G G1 = true ∧ G.length ≤ G1.length then
    if v.low G.length = true then .ok v (G1.take G.length)
    else match v with
      | .ref m => match G1[m]? with
        | some c => if c.low G.length = true then .ok (.ref G.length) (G1.take G.length ++ [c]) else .ok v G1
        | none => .bad
      | _ => .ok v G1
  else .ok v G1
abbrev Tab := Str → Option FnDef
def callF (T : Tab) (Γ : Str → Option D) : Nat → CallF
  | 0 => fun _ _ _ => .bad
  | d + 1 => fun f args G => match T f with
    | none => .bad
    | some fd => if args.length = fd.np then match exSs (callF T Γ d) Γ fd.body (args.map some ++ List.replicate (fd.ns - fd.np) none) G with
      | .rt v G1 => gc G v G1
      | .nx _ G1 => gc G .non G1
      | .ex c v _ G1 => if (oldOk G G1 && v.low G.length) = true ∧ G.length ≤ G1.length then .ex c v (G1.take G.length) else .bad
      | _ => .bad else .bad
end LK

set_option Elab.async false
set_option linter.all false
set_option autoImplicit false
set_option maxRecDepth 100000
/-! LkRep: how the language's values and cells lie in the abstract heap of HandS. -/
namespace LK
open PySem PySem.Spec PyProof.Rows L2

mutual
def nk : D → NestedKey
  | .int i => .num i
  | .str s => .text s
  | .tup xs => .tup (nkL xs)
  | .bl b => .num (if b = true then 1 else 0)
  | .non => .none
  | .ref _ => .none
  | .frl _ => .none
def nkL : List D → List NestedKey
  | [] => []
  | x :: xs => nk x :: nkL xs
end

/-- a list that is known and never written -/
def Frl (K : PySem.W.Frag) (H : Hp) (a : Addr) (xs : List V) : Prop :=
  (∃ o, H a = some (.frz o (.lst xs))) ∨
    ∃ (o : Obj) (its : Array Value) (n : Nat), K.lookup a = some o ∧ o.cls = .type "list" ∧ o.dict = none ∧ o.data = .seq its n ∧ its.size ≤ sizeLine ∧ Vals xs its.toList
theorem Frl.sql {K : PySem.W.Frag} {H : Hp} {a : Addr} {xs : List V} (h : Frl K H a xs) : SqL K H a xs := by
  rcases h with ⟨o, h⟩ | h
  · exact .inl (.inr ⟨o, h⟩)
  · exact .inr h

mutual
inductive RV (K : PySem.W.Frag) (ι : List Addr) (H : Hp) : V → D → Prop
  | non : RV K ι H .non .non
  | bl (b : Bool) : RV K ι H (.bl b) (.bl b)
  | int (i : Int) : RV K ι H (.int i) (.int i)
  | str (s : Str) : RV K ι H (.str s) (.str s)
  | tup {a : Addr} {xs : List V} {ds : List D} : SqT K H a xs → RVs K ι H xs ds → RV K ι H (.ref a) (.tup ds)
  | ref {a : Addr} {n : Nat} : ι[n]? = some a → RV K ι H (.ref a) (.ref n)
  | frl {a : Addr} {xs : List V} {ds : List D} : Frl K H a xs → RVs K ι H xs ds → RV K ι H (.ref a) (.frl ds)
inductive RVs (K : PySem.W.Frag) (ι : List Addr) (H : Hp) : List V → List D → Prop
  | nil : RVs K ι H [] []
  | cons {v : V} {vs : List V} {d : D} {ds : List D} : RV K ι H v d → RVs K ι H vs ds → RVs K ι H (v :: vs) (d :: ds)
end

section
variable (P : Program) (w : World) (K : PySem.W.Frag)
/-- a dict whose keys are tuples -/
def DictOb (a : Addr) (xs : List (NestedKey × Addr × Value)) : HO := .ext fun h =>
  (a == sysModules) = false ∧ ∃ o es ep, h.get? a = some o ∧ o.ExactDict ∧ o.data = .dict es ep ∧ es.toList = xs.map (entryOfKey (nestedKind P w)) ∧ (xs.map (·.1)).Nodup
def DctOk (ι : List Addr) (H : Hp) (a : Addr) (t : Bool) (kvs : List (D × D)) : Prop :=
  match t with
  | false => ∃ ks : List (Key × V), H a = some (.dK ks) ∧ Paired (fun (q : Key × V) (p : D × D) => RV K ι H (kV q.1) p.1 ∧ RV K ι H q.2 p.2) ks kvs
  | true => ∃ xs, H a = some (DictOb P w a xs) ∧ kvs.length ≤ LIM ∧
      Paired (fun (x : NestedKey × Addr × Value) (p : D × D) => x.1 = nk p.1 ∧ D.kok 8 p.1 = true ∧ p.1.isTup = true ∧ RV K ι H (.ref x.2.1) p.1 ∧ ∃ y, RelV y x.2.2 ∧ RV K ι H y p.2) xs kvs
def CellOk (ι : List Addr) (H : Hp) (a : Addr) : Cell → Prop
  | .lst ds => ∃ xs, H a = some (.lst xs) ∧ RVs K ι H xs ds
  | .dct t kvs => DctOk P w K ι H a t kvs
  | .set _ => False
structure HR (ι : List Addr) (G : Hpp) (H : Hp) : Prop where
  len : ι.length = G.length
  nd : ι.Nodup
  cell : ∀ (n : Nat) (c : Cell) (a : Addr), G[n]? = some c → ι[n]? = some a → CellOk P w K ι H a c
end
def ER (K : PySem.W.Frag) (ι : List Addr) (H : Hp) (σ : L2.St) (ρ : Env) : Prop := σ.length = ρ.length ∧ ∀ (i : Nat) (d : D), ρ[i]? = some (some d) → ∃ v, σ[i]? = some (some v) ∧ RV K ι H v d

/-- what a piece of code leaves -/
structure Fr2 (ι : List Addr) (H : Hp) (ι' : List Addr) (H' : Hp) : Prop where
  pre : ι <+: ι'
  fresh : ∀ (n : Nat) (a : Addr), ι.length ≤ n → ι'[n]? = some a → H a = none
  ext : ∀ (a : Addr) (o : HO), H a = some o → a ∉ ι → H' a = some o

section
variable {P : Program} {w : World} {K : PySem.W.Frag} {ι ι' ι2 : List Addr} {G G' : Hpp} {H H' H2 : Hp}
theorem Fr2.refl : Fr2 ι H ι H := ⟨List.prefix_refl _, fun n a h e => (by rw [List.getElem?_eq_none h] at e; cases e), fun _ _ h _ => h⟩
theorem CellOk.there {a : Addr} {c : Cell} (h : CellOk P w K ι H a c) : ∃ o, H a = some o := by
  cases c with
  | lst ds => obtain ⟨xs, h, _⟩ := h; exact ⟨_, h⟩
  | dct t kvs =>
    cases t with
    | false => obtain ⟨ks, h, _⟩ := h; exact ⟨_, h⟩
    | true => obtain ⟨ks, h, _⟩ := h; exact ⟨_, h⟩
  | set ds => exact False.elim h
theorem HR.at (r : HR P w K ι G H) {n : Nat} {a : Addr} (e : ι[n]? = some a) : ∃ c, G[n]? = some c ∧ CellOk P w K ι H a c := by
  have h1 : n < ι.length := (List.getElem?_eq_some_iff.mp e).1
  have h2 : n < G.length := by rw [← r.len]; exact h1
  exact ⟨G[n], List.getElem?_eq_getElem h2, r.cell n _ a (List.getElem?_eq_getElem h2) e⟩
theorem HR.addr (r : HR P w K ι G H) {n : Nat} {c : Cell} (e : G[n]? = some c) : ∃ a, ι[n]? = some a ∧ CellOk P w K ι H a c := by
  have h1 : n < G.length := (List.getElem?_eq_some_iff.mp e).1
  have h2 : n < ι.length := by rw [r.len]; exact h1
  exact ⟨ι[n], List.getElem?_eq_getElem h2, r.cell n c _ e (List.getElem?_eq_getElem h2)⟩
theorem HR.live (r : HR P w K ι G H) {a : Addr} (h : a ∈ ι) : ∃ o, H a = some o := by
  obtain ⟨n, e⟩ := List.mem_iff_getElem?.mp h
  obtain ⟨c, _, hc⟩ := r.at e
  exact hc.there
theorem HR.notin (r : HR P w K ι G H) {a : Addr} (h : H a = none) : a ∉ ι := fun hm => by
  obtain ⟨o, e⟩ := r.live hm
  rw [h] at e; cases e
theorem CellOk.kind {a : Addr} {c : Cell} (h : CellOk P w K ι H a c) : (∃ xs, H a = some (.lst xs)) ∨ (∃ ks, H a = some (.dK ks)) ∨ ∃ φ, H a = some (.ext φ) := by
  cases c with
  | lst ds => obtain ⟨xs, h, _⟩ := h; exact .inl ⟨_, h⟩
  | dct t kvs =>
    cases t with
    | false => obtain ⟨ks, h, _⟩ := h; exact .inr (.inl ⟨_, h⟩)
    | true => obtain ⟨ks, h, _⟩ := h; exact .inr (.inr ⟨_, h⟩)
  | set ds => exact False.elim h
theorem HR.not_tup (r : HR P w K ι G H) {a : Addr} {xs : List V} (h : H a = some (.tup xs)) : a ∉ ι := fun hm => by
  obtain ⟨n, e⟩ := List.mem_iff_getElem?.mp hm
  obtain ⟨c, _, hc⟩ := r.at e
  rcases hc.kind with ⟨_, q⟩ | ⟨_, q⟩ | ⟨_, q⟩ <;> (rw [h] at q; cases q)
theorem HR.not_frz (r : HR P w K ι G H) {a : Addr} {o : Obj} {u : HO} (h : H a = some (.frz o u)) : a ∉ ι := fun hm => by
  obtain ⟨n, e⟩ := List.mem_iff_getElem?.mp hm
  obtain ⟨c, _, hc⟩ := r.at e
  rcases hc.kind with ⟨_, q⟩ | ⟨_, q⟩ | ⟨_, q⟩ <;> (rw [h] at q; cases q)
theorem pre_get {n : Nat} {a : Addr} (p : ι <+: ι') (e : ι[n]? = some a) : ι'[n]? = some a := by
  obtain ⟨t, rfl⟩ := p
  have h1 : n < ι.length := (List.getElem?_eq_some_iff.mp e).1
  rw [List.getElem?_append_left h1]; exact e
theorem Fr2.trans (r : HR P w K ι' G' H') (a : Fr2 ι H ι' H') (b : Fr2 ι' H' ι2 H2) : Fr2 ι H ι2 H2 where
  pre := a.pre.trans b.pre
  fresh := fun n x hn e => by
    cases q : H x with
    | none => rfl
    | some o =>
      by_cases hn' : n < ι'.length
      · have e' : ι'[n]? = some x := by
          obtain ⟨t, rfl⟩ := b.pre
          rw [List.getElem?_append_left hn'] at e; exact e
        have := a.fresh n x hn e'
        rw [q] at this; exact this
      · have h1 := b.fresh n x (Nat.le_of_not_lt hn') e
        by_cases hx : x ∈ ι
        · obtain ⟨o', q'⟩ := r.live (a.pre.subset hx)
          rw [h1] at q'; cases q'
        · rw [a.ext x o q hx] at h1; cases h1
  ext := fun x o e hx => by
    refine b.ext x o (a.ext x o e hx) fun hm => ?_
    obtain ⟨n, en⟩ := List.mem_iff_getElem?.mp hm
    by_cases hn : n < ι.length
    · obtain ⟨t, rfl⟩ := a.pre
      rw [List.getElem?_append_left hn] at en
      exact hx (List.mem_iff_getElem?.mpr ⟨n, en⟩)
    · have := a.fresh n x (Nat.le_of_not_lt hn) en
      rw [e] at this; cases this
mutual
theorem RV.up {v : V} {d : D} (a : Addr) : RV K ι H v d → RV K (ι ++ [a]) H v d
  | .non => .non
  | .bl b => .bl b
  | .int b => .int b
  | .str b => .str b
  | .tup h hs => .tup h (RVs.up a hs)
  | .ref e => .ref (pre_get (List.prefix_append _ _) e)
  | .frl h hs => .frl h (RVs.up a hs)
theorem RVs.up {vs : List V} {ds : List D} (a : Addr) : RVs K ι H vs ds → RVs K (ι ++ [a]) H vs ds
  | .nil => .nil
  | .cons h hs => .cons (RV.up a h) (RVs.up a hs)
end
theorem CellOk.up {x : Addr} {c : Cell} (a : Addr) (h : CellOk P w K ι H x c) : CellOk P w K (ι ++ [a]) H x c := by
  cases c with
  | lst ds => obtain ⟨xs, h1, h2⟩ := h; exact ⟨xs, h1, h2.up a⟩
  | dct t kvs =>
    cases t with
    | false => obtain ⟨ks, h1, h2⟩ := h; exact ⟨ks, h1, L2.Paired.mapP h2 fun _ _ q => ⟨q.1.up a, q.2.up a⟩⟩
    | true =>
      obtain ⟨ks, h1, h3, h2⟩ := h
      exact ⟨ks, h1, h3, L2.Paired.mapP h2 fun _ _ q => ⟨q.1, q.2.1, q.2.2.1, q.2.2.2.1.up a, let ⟨y, y1, y2⟩ := q.2.2.2.2; ⟨y, y1, y2.up a⟩⟩⟩
  | set ds => exact False.elim h
theorem SqT.go (r : HR P w K ι G H) (f : Fr2 ι H ι' H') {a : Addr} {xs : List V} (h : SqT K H a xs) : SqT K H' a xs := by
  rcases h with (h | ⟨o, h⟩) | h
  · exact .inl (.inl (f.ext a _ h (r.not_tup h)))
  · exact .inl (.inr ⟨o, f.ext a _ h (r.not_frz h)⟩)
  · exact .inr h
theorem Frl.go (r : HR P w K ι G H) (f : Fr2 ι H ι' H') {a : Addr} {xs : List V} (h : Frl K H a xs) : Frl K H' a xs := by
  rcases h with ⟨o, h⟩ | h
  · exact .inl ⟨o, f.ext a _ h (r.not_frz h)⟩
  · exact .inr h
mutual
theorem RV.go (r : HR P w K ι G H) (f : Fr2 ι H ι' H') : ∀ {v : V} {d : D}, RV K ι H v d → RV K ι' H' v d
  | _, _, .non => .non
  | _, _, .bl b => .bl b
  | _, _, .int b => .int b
  | _, _, .str b => .str b
  | _, _, .tup h hs => .tup (SqT.go r f h) (RVs.go r f hs)
  | _, _, .ref e => .ref (pre_get f.pre e)
  | _, _, .frl h hs => .frl (Frl.go r f h) (RVs.go r f hs)
theorem RVs.go (r : HR P w K ι G H) (f : Fr2 ι H ι' H') : ∀ {vs : List V} {ds : List D}, RVs K ι H vs ds → RVs K ι' H' vs ds
  | _, _, .nil => .nil
  | _, _, .cons h hs => .cons (RV.go r f h) (RVs.go r f hs)
end
theorem ER.go (r : HR P w K ι G H) (f : Fr2 ι H ι' H') {σ : L2.St} {ρ : Env} (e : ER K ι H σ ρ) : ER K ι' H' σ ρ :=
  ⟨e.1, fun i d h => let ⟨v, h1, h2⟩ := e.2 i d h; ⟨v, h1, h2.go r f⟩⟩
theorem RVs.length {vs : List V} {ds : List D} (h : RVs K ι H vs ds) : vs.length = ds.length := by
  induction ds generalizing vs with
  | nil => cases h; rfl
  | cons d ds ih => cases h with | cons h hs => simp [ih hs]
theorem RVs.get {vs : List V} {ds : List D} (h : RVs K ι H vs ds) : ∀ {i : Nat} {d : D}, ds[i]? = some d → ∃ v, vs[i]? = some v ∧ RV K ι H v d := by
  induction ds generalizing vs with
  | nil => intro i d e; simp at e
  | cons d ds ih =>
    cases h with
    | cons h hs =>
      intro i e he
      cases i with
      | zero => simp at he; subst he; exact ⟨_, rfl, h⟩
      | succ i => simp at he; simpa using ih hs he
theorem RVs.getV {vs : List V} {ds : List D} (h : RVs K ι H vs ds) {i : Nat} {v : V} (e : vs[i]? = some v) : ∃ d, ds[i]? = some d ∧ RV K ι H v d := by
  have h1 : i < vs.length := (List.getElem?_eq_some_iff.mp e).1
  have h2 : i < ds.length := by rw [← h.length]; exact h1
  obtain ⟨v', e', r⟩ := h.get (List.getElem?_eq_getElem h2)
  rw [e] at e'; cases e'
  exact ⟨_, List.getElem?_eq_getElem h2, r⟩
theorem RVs.append {vs us : List V} {ds es : List D} (h : RVs K ι H vs ds) (h' : RVs K ι H us es) : RVs K ι H (vs ++ us) (ds ++ es) := by
  induction ds generalizing vs with
  | nil => cases h; exact h'
  | cons d ds ih => cases h with | cons h hs => exact .cons h (ih hs)
theorem RVs.take {vs : List V} {ds : List D} (n : Nat) (h : RVs K ι H vs ds) : RVs K ι H (vs.take n) (ds.take n) := by
  induction ds generalizing vs n with
  | nil => cases h; simpa using RVs.nil
  | cons d ds ih =>
    cases h with
    | cons h hs =>
      cases n with
      | zero => exact .nil
      | succ n => exact .cons h (ih n hs)
theorem RVs.drop {vs : List V} {ds : List D} (n : Nat) (h : RVs K ι H vs ds) : RVs K ι H (vs.drop n) (ds.drop n) := by
  induction ds generalizing vs n with
  | nil => cases h; simpa using RVs.nil
  | cons d ds ih =>
    cases h with
    | cons h hs =>
      cases n with
      | zero => exact .cons h hs
      | succ n => exact ih n hs
theorem RVs.set {vs : List V} {ds : List D} {v : V} {d : D} (hv : RV K ι H v d) (n : Nat) (h : RVs K ι H vs ds) : RVs K ι H (vs.set n v) (ds.set n d) := by
  induction ds generalizing vs n with
  | nil => cases h; exact .nil
  | cons d ds ih =>
    cases h with
    | cons h hs =>
      cases n with
      | zero => exact .cons hv hs
      | succ n => exact .cons h (ih n hs)
theorem RVs.erase {vs : List V} {ds : List D} (n : Nat) (h : RVs K ι H vs ds) : RVs K ι H (vs.eraseIdx n) (ds.eraseIdx n) := by
  induction ds generalizing vs n with
  | nil => cases h; exact .nil
  | cons d ds ih =>
    cases h with
    | cons h hs =>
      cases n with
      | zero => exact hs
      | succ n => exact .cons h (ih n hs)
theorem RVs.rep {vs : List V} {ds : List D} (h : RVs K ι H vs ds) : ∀ n : Nat, RVs K ι H (List.replicate n vs).flatten (List.replicate n ds).flatten
  | 0 => .nil
  | n + 1 => by simp only [List.replicate_succ, List.flatten_cons]; exact h.append (RVs.rep h n)
theorem RVs.one {vs : List V} {d : D} (h : RVs K ι H vs [d]) : ∃ v, vs = [v] ∧ RV K ι H v d := by
  cases h with | cons h hs => cases hs; exact ⟨_, rfl, h⟩
/-- a new list or dict is laid: the cells stand -/
theorem Fr2.laid {a : Addr} {o : HO} (h : H a = none) : Fr2 ι H ι (upd H a o) where
  pre := List.prefix_refl _
  fresh := fun n x hn e => by rw [List.getElem?_eq_none hn] at e; cases e
  ext := fun x u e hx => by rw [upd_ne (ne_of_none e h)]; exact e
theorem RV.laid {a : Addr} {o : HO} (r : HR P w K ι G H) (h : H a = none) {v : V} {d : D} (q : RV K ι H v d) : RV K ι (upd H a o) v d := q.go r (Fr2.laid h)
/-- one cell's cell stays, where all but some addresses stay -/
theorem CellOk.go (r : HR P w K ι G H) (f : Fr2 ι H ι' H') {a : Addr} {c : Cell} (h : CellOk P w K ι H a c) (e : ∀ o, H a = some o → H' a = some o) : CellOk P w K ι' H' a c := by
  cases c with
  | lst ds => obtain ⟨xs, h1, h2⟩ := h; exact ⟨xs, e _ h1, h2.go r f⟩
  | dct t kvs =>
    cases t with
    | false => obtain ⟨ks, h1, h2⟩ := h; exact ⟨ks, e _ h1, L2.Paired.mapP h2 fun _ _ q => ⟨q.1.go r f, q.2.go r f⟩⟩
    | true =>
      obtain ⟨ks, h1, h3, h2⟩ := h
      exact ⟨ks, e _ h1, h3, L2.Paired.mapP h2 fun _ _ q => ⟨q.1, q.2.1, q.2.2.1, q.2.2.2.1.go r f, let ⟨y, y1, y2⟩ := q.2.2.2.2; ⟨y, y1, y2.go r f⟩⟩⟩
  | set ds => exact False.elim h
theorem HR.laid {a : Addr} {o : HO} (r : HR P w K ι G H) (h : H a = none) : HR P w K ι G (upd H a o) :=
  ⟨r.len, r.nd, fun n c x e1 e2 => (r.cell n c x e1 e2).go r (Fr2.laid h) fun u e => by rw [upd_ne (ne_of_none e h)]; exact e⟩
/-- a new cell -/
theorem HR.push {a : Addr} {c : Cell} (r : HR P w K ι G H) (ha : a ∉ ι) (hc : CellOk P w K (ι ++ [a]) H a c) : HR P w K (ι ++ [a]) (G ++ [c]) H := by
  refine ⟨by simp [r.len], ?_, fun n d x e1 e2 => ?_⟩
  · rw [List.nodup_append]
    exact ⟨r.nd, by simp, fun x hx y hy => by simp at hy; subst hy; exact fun e => ha (e ▸ hx)⟩
  · by_cases hn : n < G.length
    · have hn' : n < ι.length := by rw [r.len]; exact hn
      rw [List.getElem?_append_left hn] at e1
      rw [List.getElem?_append_left hn'] at e2
      have h := r.cell n d x e1 e2
      exact h.up a
    · have hn' : ¬ n < ι.length := by rw [r.len]; exact hn
      have hl := r.len
      rw [List.getElem?_append_right (Nat.le_of_not_lt hn)] at e1
      rw [List.getElem?_append_right (Nat.le_of_not_lt hn')] at e2
      have h0 : n - G.length = 0 := by
        cases q : n - G.length with
        | zero => rfl
        | succ k => rw [q] at e1; simp at e1
      rw [h0] at e1
      rw [hl, h0] at e2
      simp at e1 e2
      subst e1 e2
      exact hc
end
end LK

set_option Elab.async false
set_option linter.all false
set_option autoImplicit false
set_option maxRecDepth 100000
set_option maxHeartbeats 4000000
/-! LkOps: the operators, by values. -/
namespace LK
open PySem PySem.Spec PyProof.Rows L2

section
variable (P : Program) (w : World) (K : PySem.W.Frag)
/-- how a result lies: H0 the heap ahead -/
def RR (H0 : Hp) (ι : List Addr) (H : Hp) (v : V) : R → Prop
  | .val d => RV K ι H v d
  | .newL ds => ∃ a xs, v = .ref a ∧ H a = some (.lst xs) ∧ RVs K ι H xs ds ∧ H0 a = none ∧ a ∉ ι
  | .newD t kvs => ∃ a, v = .ref a ∧ DctOk P w K ι H a t kvs ∧ H0 a = none ∧ a ∉ ι
  | .newS _ => False
/-- what is wanted behind a result: QQ of the result, the cells, the heap, the value; XC: how an exception lies; W: what is wanted of it -/
def Post {α β : Type} (Rel : Hp → List Addr → Hp → β → α → Prop) (XC : Str → D → List Addr → Hp → Value → Option Addr → Prop) (W : Value → Option Addr → Hp → Prop) (ι : List Addr) (H : Hp) (QQ : α → List Addr → Hpp → Hp → β → Prop) : Res α → Prop
  | .ok a G' => ∀ ι' H' v, Fr2 ι H ι' H' → HR P w K ι' G' H' → Rel H ι' H' v a → QQ a ι' G' H' v
  | .ex c d G' => ∀ ι' H' cls dd, Fr2 ι H ι' H' → HR P w K ι' G' H' → XC c d ι' H' cls dd → W cls dd H'
  | .bad => False
end

section
variable {P : Program} {w : World} {K : PySem.W.Frag} {ι ι' ι2 : List Addr} {G G' : Hpp} {H H' H2 H0 : Hp}
theorem Fr2.back (r : HR P w K ι' G' H') (f : Fr2 ι H ι' H') {a : Addr} (h : H' a = none) : H a = none := by
  cases q : H a with
  | none => rfl
  | some o =>
    by_cases hx : a ∈ ι
    · obtain ⟨o', q'⟩ := r.live (f.pre.subset hx)
      rw [h] at q'; cases q'
    · rw [f.ext a o q hx] at h; cases h
theorem RR.back (r : HR P w K ι' G' H') (f : Fr2 ι H ι' H') {v : V} {x : R} (h : RR P w K H' ι2 H2 v x) : RR P w K H ι2 H2 v x := by
  cases x with
  | val d => exact h
  | newL ds => obtain ⟨a, xs, h1, h2, h3, h4, h5⟩ := h; exact ⟨a, xs, h1, h2, h3, f.back r h4, h5⟩
  | newD t kvs => obtain ⟨a, h1, h2, h4, h5⟩ := h; exact ⟨a, h1, h2, f.back r h4, h5⟩
  | newS ds => exact h
theorem DctOk.go (r : HR P w K ι G H) (f : Fr2 ι H ι' H') {a : Addr} {t : Bool} {kvs : List (D × D)} (h : DctOk P w K ι H a t kvs) (e : ∀ o, H a = some o → H' a = some o) : DctOk P w K ι' H' a t kvs :=
  CellOk.go (c := .dct t kvs) r f h e
theorem Fr2.notin (f : Fr2 ι H ι' H') {a : Addr} {o : HO} (h : H a = some o) (n : a ∉ ι) : a ∉ ι' := fun hm => by
  obtain ⟨m, em⟩ := List.mem_iff_getElem?.mp hm
  by_cases hn : m < ι.length
  · obtain ⟨t, rfl⟩ := f.pre
    rw [List.getElem?_append_left hn] at em
    exact n (List.mem_iff_getElem?.mpr ⟨m, em⟩)
  · have := f.fresh m a (Nat.le_of_not_lt hn) em
    rw [h] at this; cases this
/-- a result waits while other code runs -/
theorem RR.go (r : HR P w K ι G H) (f : Fr2 ι H ι' H') {v : V} {x : R} (h : RR P w K H0 ι H v x) : RR P w K H0 ι' H' v x := by
  cases x with
  | val d => exact RV.go r f h
  | newL ds => obtain ⟨a, xs, h1, h2, h3, h4, h5⟩ := h; exact ⟨a, xs, h1, f.ext _ _ h2 h5, h3.go r f, h4, f.notin h2 h5⟩
  | newD t kvs =>
    obtain ⟨a, h1, h2, h4, h5⟩ := h
    obtain ⟨o, e⟩ := CellOk.there (c := .dct t kvs) h2
    exact ⟨a, h1, h2.go r f fun o' e' => f.ext _ _ e' h5, h4, f.notin e h5⟩
  | newS ds => exact h
variable {α β γ δ : Type} {XC : Str → D → List Addr → Hp → Value → Option Addr → Prop} {W : Value → Option Addr → Hp → Prop}
  {Rel : Hp → List Addr → Hp → β → α → Prop} {Rel2 : Hp → List Addr → Hp → δ → γ → Prop}
theorem Post.bind {QQ : γ → List Addr → Hpp → Hp → δ → Prop} {ra : Res α} {k : α → Hpp → Res γ} (h : Post P w K Rel2 XC W ι H QQ (ra.bind k)) :
    Post P w K Rel XC W ι H (fun a ι1 G1 H1 v => Fr2 ι H ι1 H1 ∧ HR P w K ι1 G1 H1 ∧ Rel H ι1 H1 v a ∧ Post P w K Rel2 XC W ι H QQ (k a G1)) ra := by
  cases ra with
  | ok a G1 => exact fun ι1 H1 v f r q => ⟨f, r, q, h⟩
  | ex c d G1 => exact h
  | bad => exact h
theorem Post.shift {QQ : α → List Addr → Hpp → Hp → β → Prop} {res : Res α} (r : HR P w K ι' G' H') (f : Fr2 ι H ι' H') (hb : ∀ ι2 H2 v a, Rel H' ι2 H2 v a → Rel H ι2 H2 v a)
    (h : Post P w K Rel XC W ι H QQ res) : Post P w K Rel XC W ι' H' QQ res := by
  cases res with
  | ok a G1 => exact fun ι1 H1 v f' r' q => h ι1 H1 v (f.trans r f') r' (hb _ _ _ _ q)
  | ex c d G1 => exact fun ι1 H1 cls dd f' r' q => h ι1 H1 cls dd (f.trans r f') r' q
  | bad => exact h
theorem Post.imp {QQ QQ' : α → List Addr → Hpp → Hp → β → Prop} {res : Res α} (h : Post P w K Rel XC W ι H QQ res) (hq : ∀ a ι1 G1 H1 v, QQ a ι1 G1 H1 v → QQ' a ι1 G1 H1 v) : Post P w K Rel XC W ι H QQ' res := by
  cases res with
  | ok a G1 => exact fun ι1 H1 v f' r' q => hq _ _ _ _ _ (h ι1 H1 v f' r' q)
  | ex c d G1 => exact h
  | bad => exact h
end

section
variable {X : Cx} {pins : List (Addr × Obj)} {σ : L2.St} {s : Shared} {ι : List Addr} {G : Hpp} {H H0 H1 : Hp} {x y : V} {v u : Value} {r q : R}
  {XC : Str → D → List Addr → Hp → Value → Option Addr → Prop} {W : Value → Option Addr → Hp → Prop} {QQ : R → List Addr → Hpp → Hp → V → Prop}
abbrev PRes (X : Cx) (XC : Str → D → List Addr → Hp → Value → Option Addr → Prop) (W : Value → Option Addr → Hp → Prop) (ι : List Addr) (H : Hp) (QQ : R → List Addr → Hpp → Hp → V → Prop) (res : Res R) : Prop :=
  Post X.prog X.w X.K (RR X.prog X.w X.K) XC W ι H QQ res
/-- the wish as HandS has it -/
abbrev QV (QQ : R → List Addr → Hpp → Hp → V → Prop) : VK := fun v H' => ∃ r ι' G', QQ r ι' G' H' v
theorem ok_val {d : D} {v : V} (hr : HR X.prog X.w X.K ι G H) (h : PRes X XC W ι H QQ (okV d G)) (hv : RV X.K ι H v d) : QV QQ v H := ⟨_, _, _, h ι H v .refl hr hv⟩
/-- a new tuple -/
theorem ok_tup {ds : List D} {xs : List V} (hr : HR X.prog X.w X.K ι G H) (h : PRes X XC W ι H QQ (okV (.tup ds) G)) (hv : RVs X.K ι H xs ds) {p : Addr} (hp : H p = none) : QV QQ (.ref p) (upd H p (.tup xs)) :=
  ⟨_, _, _, h ι (upd H p (.tup xs)) _ (Fr2.laid hp) (hr.laid hp) (.tup (SqT.of upd_same) (hv.go hr (Fr2.laid hp)))⟩
/-- a new list -/
theorem ok_lst {ds : List D} {xs : List V} (hr : HR X.prog X.w X.K ι G H) (h : PRes X XC W ι H QQ (.ok (.newL ds) G)) (hv : RVs X.K ι H xs ds) {p : Addr} (hp : H p = none) : QV QQ (.ref p) (upd H p (.lst xs)) :=
  ⟨_, _, _, h ι (upd H p (.lst xs)) _ (Fr2.laid hp) (hr.laid hp) ⟨p, xs, rfl, upd_same, hv.go hr (Fr2.laid hp), hp, hr.notin hp⟩⟩
theorem lim_line : LIM ≤ sizeLine := by rw [sizeLine_eq]; decide
theorem rv_int {i : Int} (h : RV X.K ι H x (.int i)) : x = .int i := by cases h; rfl
theorem rv_bl {i : Bool} (h : RV X.K ι H x (.bl i)) : x = .bl i := by cases h; rfl
theorem rv_str {i : Str} (h : RV X.K ι H x (.str i)) : x = .str i := by cases h; rfl
theorem rv_non (h : RV X.K ι H x .non) : x = .non := by cases h; rfl
theorem rv_tup {ds : List D} (h : RV X.K ι H x (.tup ds)) : ∃ a xs, x = .ref a ∧ SqT X.K H a xs ∧ RVs X.K ι H xs ds := by cases h with | tup h1 h2 => exact ⟨_, _, rfl, h1, h2⟩
/-- a list that can be written -/
theorem rr_lstM {ds : List D} (hr : HR X.prog X.w X.K ι G H) (h : RR X.prog X.w X.K H0 ι H x r) (e : lstM r G = some ds) : ∃ a xs, x = .ref a ∧ H a = some (.lst xs) ∧ RVs X.K ι H xs ds := by
  cases r with
  | val d =>
    cases d with
    | ref n =>
      cases h with
      | ref hn =>
        cases hg : G[n]? with
        | none => simp [lstM, hg] at e
        | some c =>
          cases c with
          | lst es =>
            simp [lstM, hg] at e; subst e
            obtain ⟨xs, h1, h2⟩ := hr.cell n _ _ hg hn
            exact ⟨_, xs, rfl, h1, h2⟩
          | dct t kvs => simp [lstM, hg] at e
          | set es => simp [lstM, hg] at e
    | _ => simp [lstM] at e
  | newL es => simp [lstM] at e; subst e; obtain ⟨a, xs, h1, h2, h3, _⟩ := h; exact ⟨a, xs, h1, h2, h3⟩
  | newD t kvs => simp [lstM] at e
  | newS es => simp [lstM] at e
theorem rr_lstOf {ds : List D} (hr : HR X.prog X.w X.K ι G H) (h : RR X.prog X.w X.K H0 ι H x r) (e : lstOf r G = some ds) : ∃ a xs, x = .ref a ∧ SqL X.K H a xs ∧ RVs X.K ι H xs ds := by
  have gen : lstM r G = some ds → ∃ a xs, x = .ref a ∧ SqL X.K H a xs ∧ RVs X.K ι H xs ds := fun e' => by
    obtain ⟨a, xs, h1, h2, h3⟩ := rr_lstM hr h e'
    exact ⟨a, xs, h1, SqL.of h2, h3⟩
  cases r with
  | val d =>
    cases d with
    | frl es =>
      have e' : es = ds := by simpa [lstOf] using e
      subst e'
      cases h with
      | frl h1 h2 => exact ⟨_, _, rfl, h1.sql, h2⟩
    | _ => exact gen e
  | newL es => exact gen e
  | newD t kvs => exact gen e
  | newS es => exact gen e
theorem rr_seqOf {ds : List D} (hr : HR X.prog X.w X.K ι G H) (h : RR X.prog X.w X.K H0 ι H x r) (e : seqOf r G = some ds) : ∃ a xs, x = .ref a ∧ (SqL X.K H a xs ∨ SqT X.K H a xs) ∧ RVs X.K ι H xs ds := by
  have gen : lstOf r G = some ds → ∃ a xs, x = .ref a ∧ (SqL X.K H a xs ∨ SqT X.K H a xs) ∧ RVs X.K ι H xs ds := fun e' => by
    obtain ⟨a, xs, h1, h2, h3⟩ := rr_lstOf hr h e'
    exact ⟨a, xs, h1, .inl h2, h3⟩
  cases r with
  | val d =>
    cases d with
    | tup es =>
      have e' : es = ds := by simpa [seqOf] using e
      subst e'
      obtain ⟨a, xs, h1, h2, h3⟩ := rv_tup h
      exact ⟨a, xs, h1, .inr h2, h3⟩
    | _ => exact gen e
  | newL es => exact gen e
  | newD t kvs => exact gen e
  | newS es => exact gen e

/-! ### the operators of numbers -/
theorem cmul_of {i j : Int} (h : mulOk i j = true) : CMul i j := by
  simp only [mulOk, Bool.or_eq_true, Bool.and_eq_true, decide_eq_true_eq] at h
  exact h
theorem cpow_of {i j : Int} (h : 0 ≤ j ∧ j ≤ 1000 ∧ i.natAbs < 2 ^ 64) : CPow i j := ⟨h.1, by omega, h.2.2⟩
def Bop.op : Bop → Operator
  | .add => .Add | .sub => .Sub | .mul => .Mult | .fdiv => .FloorDiv | .mod => .Mod | .pow => .Pow | .shl => .LShift | .shr => .RShift | .band => .BitAnd | .bor => .BitOr
theorem binI_ok {op : Bop} {i j : Int} (I : Inv X pins σ H s) (hr : HR X.prog X.w X.K ι G H) (rx : L2.RelV (.int i) v) (ry : L2.RelV (.int j) u) (h : PRes X XC W ι H QQ (binI op i j G)) :
    wpAny (model X.prog X.w) X.A (binaryOp op.op v u) (EP X pins σ (QV QQ)) X.xe s := by
  cases op with
  | add => exact op_add pins s σ H _ _ v u _ I rx ry ⟨i, j, rfl, rfl, ok_val hr h (.int _)⟩
  | sub => exact op_sub pins s σ H _ _ v u _ I rx ry ⟨i, j, rfl, rfl, ok_val hr h (.int _)⟩
  | mul =>
    unfold binI at h
    dsimp only at h
    split at h
    · rename_i hm
      exact op_mul pins s σ H _ _ v u _ I rx ry ⟨i, j, rfl, rfl, cmul_of hm, ok_val hr h (.int _)⟩
    · exact h.elim
  | fdiv =>
    unfold binI at h
    dsimp only at h
    split at h
    · rename_i hm
      exact op_fdivN pins s σ H _ _ v u _ I rx ry ⟨i, j, rfl, rfl, hm, ok_val hr h (.int _)⟩
    · exact h.elim
  | mod =>
    unfold binI at h
    dsimp only at h
    split at h
    · rename_i hm
      exact op_modN pins s σ H _ _ v u _ I rx ry ⟨i, j, rfl, rfl, hm, ok_val hr h (.int _)⟩
    · exact h.elim
  | pow =>
    unfold binI at h
    dsimp only at h
    split at h
    · rename_i hm
      exact op_pow pins s σ H _ _ v u _ I rx ry ⟨i, j, rfl, rfl, cpow_of hm, ok_val hr h (.int _)⟩
    · exact h.elim
  | shl =>
    unfold binI at h
    dsimp only at h
    split at h
    · rename_i hm
      exact op_shl pins s σ H _ _ v u _ I rx ry ⟨i, j, rfl, rfl, cpow_of hm, ok_val hr h (.int _)⟩
    · exact h.elim
  | shr =>
    unfold binI at h
    dsimp only at h
    split at h
    · rename_i hm
      exact op_shr pins s σ H _ _ v u _ I rx ry ⟨i, j, rfl, rfl, hm, ok_val hr h (.int _)⟩
    · exact h.elim
  | band => exact op_and pins s σ H _ _ v u _ I rx ry ⟨i, j, rfl, rfl, ok_val hr h (.int _)⟩
  | bor => exact op_or pins s σ H _ _ v u _ I rx ry ⟨i, j, rfl, rfl, ok_val hr h (.int _)⟩
theorem ibinI_ok {op : Bop} {i j : Int} (I : Inv X pins σ H s) (hr : HR X.prog X.w X.K ι G H) (ho : op = .add ∨ op = .sub ∨ op = .mul) (rx : L2.RelV (.int i) v) (ry : L2.RelV (.int j) u) (h : PRes X XC W ι H QQ (binI op i j G)) :
    wpAny (model X.prog X.w) X.A (inplaceOp op.op v u) (EP X pins σ (QV QQ)) X.xe s := by
  rcases ho with rfl | rfl | rfl
  · exact iop_add pins s σ H _ _ v u _ I rx ry ⟨i, j, rfl, rfl, ok_val hr h (.int _)⟩
  · exact iop_sub pins s σ H _ _ v u _ I rx ry ⟨i, j, rfl, rfl, ok_val hr h (.int _)⟩
  · unfold binI at h
    dsimp only at h
    split at h
    · rename_i hm
      exact iop_mul pins s σ H _ _ v u _ I rx ry ⟨i, j, rfl, rfl, cmul_of hm, ok_val hr h (.int _)⟩
    · exact h.elim
/-- () + t -/
theorem cat_tup0 {t b : Addr} {ws : List Value} {P : Program} {w : World} {A : Around} {E : Value → Shared → Prop} {Q : Value → Shared → Prop} (ht : IsTup s.heap t (#[] : Array Value)) (hb : IsTup s.heap b ws.toArray) (h1 : Q (.ref b) s) :
    wpAny (model P w) A (binaryOp .Add (.ref t) (.ref b)) Q E s := by
  obtain ⟨⟨cls, dd, data, sl⟩, ho, hc, n, hd⟩ := id ht
  obtain ⟨⟨cls2, dd2, data2, sl2⟩, ho2, hc2, n2, hd2⟩ := id hb
  simp only at hc hd hc2 hd2
  subst hc hd hc2 hd2
  exact concat_meets ⟨_, ho, rfl⟩ ⟨_, ho2, rfl⟩ noFill_tuple_add seq_tuple_add PySem.F.slot_tuple_add PySem.F.entry_tuple_add (PySem.F.args_tuple_add_2 _ _)
    (tuple_addW0 t b #[] ws.toArray n n2 dd dd2 sl sl2 rfl) ⟨ho, ho2, h1⟩
theorem addT_ok {ds es : List D} (I : Inv X pins σ H s) (hr : HR X.prog X.w X.K ι G H) (rx : L2.RelV x v) (ry : L2.RelV y u) (qx : RV X.K ι H x (.tup ds)) (qy : RV X.K ι H y (.tup es)) (hl : ds.length + es.length ≤ LIM)
    (h : PRes X XC W ι H QQ (okV (.tup (ds ++ es)) G)) : wpAny (model X.prog X.w) X.A (binaryOp .Add v u) (EP X pins σ (QV QQ)) X.xe s := by
  obtain ⟨a, xs, rfl, hx, hxs⟩ := rv_tup qx
  obtain ⟨b, ys, rfl, hy, hys⟩ := rv_tup qy
  by_cases e : xs = []
  · subst e
    cases hxs
    obtain ⟨its, r1, p1, _⟩ := I.tuple hx
    obtain ⟨its2, r2, p2, _⟩ := I.tuple hy
    cases r1
    cases rx
    cases ry
    exact cat_tup0 p1 p2 ⟨.ref b, H, I, rfl, ok_val hr h (.tup hy hys)⟩
  · refine op_catT pins s σ H _ _ v u _ I rx ry ⟨a, b, xs, ys, rfl, rfl, hx, hy, e, ?_, fun e2 => ?_, fun e2 p hp => ok_tup hr h (hxs.append hys) hp⟩
    · rw [hxs.length, hys.length]; exact Nat.le_trans hl lim_line
    · subst e2
      cases hys
      rw [List.append_nil] at h
      exact ok_val hr h (.tup hx hxs)
theorem addL_ok {ds es : List D} (I : Inv X pins σ H s) (hr : HR X.prog X.w X.K ι G H) (rx : L2.RelV x v) (ry : L2.RelV y u) (qx : RR X.prog X.w X.K H0 ι H x r) (qy : RR X.prog X.w X.K H1 ι H y q)
    (ex : lstM r G = some ds) (ey : lstM q G = some es) (hl : ds.length + es.length ≤ LIM)
    (h : PRes X XC W ι H QQ (.ok (.newL (ds ++ es)) G)) : wpAny (model X.prog X.w) X.A (binaryOp .Add v u) (EP X pins σ (QV QQ)) X.xe s := by
  obtain ⟨a, xs, rfl, hx, hxs⟩ := rr_lstM hr qx ex
  obtain ⟨b, ys, rfl, hy, hys⟩ := rr_lstM hr qy ey
  refine op_cat pins s σ H _ _ v u _ I rx ry ⟨a, b, xs, ys, rfl, rfl, hx, hy, ?_, fun p hp => ok_lst hr h (hxs.append hys) hp⟩
  rw [hxs.length, hys.length]; exact Nat.le_trans hl lim_line
theorem repL_ok {ds : List D} {k : Int} (I : Inv X pins σ H s) (hr : HR X.prog X.w X.K ι G H) (rx : L2.RelV x v) (ry : L2.RelV (.int k) u) (qx : RR X.prog X.w X.K H0 ι H x r)
    (ex : lstM r G = some ds) (hk : 0 ≤ k ∧ k ≤ 1000 ∧ ds.length ≤ 1000)
    (h : PRes X XC W ι H QQ (.ok (.newL (repL ds k)) G)) : wpAny (model X.prog X.w) X.A (binaryOp .Mult v u) (EP X pins σ (QV QQ)) X.xe s := by
  obtain ⟨a, xs, rfl, hx, hxs⟩ := rr_lstM hr qx ex
  have h2 := hxs.length
  refine op_rep pins s σ H _ _ v u _ I rx ry ⟨a, k, xs, rfl, rfl, hx, by omega, by omega, ?_, fun p hp => ok_lst hr h (hxs.rep _) hp⟩
  have h1 : xs.length * k.toNat ≤ 1000 * 1000 := Nat.mul_le_mul (by omega) (by omega)
  exact Nat.le_trans h1 lim_line
theorem repT_ok {ds : List D} {k : Int} (I : Inv X pins σ H s) (hr : HR X.prog X.w X.K ι G H) (rx : L2.RelV x v) (ry : L2.RelV (.int k) u) (qx : RV X.K ι H x (.tup ds))
    (hk : 2 ≤ k ∧ k ≤ 1000 ∧ ds.length ≤ 1000 ∧ ds ≠ [])
    (h : PRes X XC W ι H QQ (okV (.tup (repL ds k)) G)) : wpAny (model X.prog X.w) X.A (binaryOp .Mult v u) (EP X pins σ (QV QQ)) X.xe s := by
  obtain ⟨a, xs, rfl, hx, hxs⟩ := rv_tup qx
  have h2 := hxs.length
  refine op_repT pins s σ H _ _ v u _ I rx ry ⟨a, k, xs, rfl, rfl, hx, fun e => ?_, hk.1, hk.2.1, by omega, fun p hp => ok_tup hr h (hxs.rep _) hp⟩
  subst e
  cases hxs
  exact hk.2.2.2 rfl
theorem bin_ok {op : Bop} (I : Inv X pins σ H s) (hr : HR X.prog X.w X.K ι G H) (rx : L2.RelV x v) (ry : L2.RelV y u) (qx : RR X.prog X.w X.K H0 ι H x r) (qy : RR X.prog X.w X.K H1 ι H y q)
    (h : PRes X XC W ι H QQ (binR op r q G)) : wpAny (model X.prog X.w) X.A (binaryOp op.op v u) (EP X pins σ (QV QQ)) X.xe s := by
  unfold binR at h
  split at h
  · cases rv_int qx; cases rv_int qy
    exact binI_ok I hr rx ry h
  · split at h
    · split at h
      · rename_i hl
        exact addT_ok I hr rx ry qx qy hl h
      · exact h.elim
    · exact h.elim
  · split at h
    · split at h
      · rename_i hl
        cases rv_int qy
        exact repT_ok I hr rx ry qx hl h
      · exact h.elim
    · exact h.elim
  · split at h
    · split at h
      · rename_i hl
        cases rv_str qx; cases rv_str qy
        exact op_add_str pins s σ H _ _ v u _ I rx ry ⟨_, _, rfl, rfl, Nat.le_trans hl lim_line, ok_val hr h (.str _)⟩
      · exact h.elim
    · exact h.elim
  · split at h
    · rename_i e
      split at h
      · rename_i hl
        cases rv_int qy
        exact repL_ok I hr rx ry qx e hl h
      · exact h.elim
    · exact h.elim
  · split at h
    · rename_i e1 e2
      split at h
      · rename_i hl
        exact addL_ok I hr rx ry qx qy e1 e2 hl h
      · exact h.elim
    · exact h.elim
end
end LK

set_option Elab.async false
set_option linter.all false
set_option autoImplicit false
set_option maxRecDepth 100000
set_option maxHeartbeats 4000000
/-! LkCmp: comparisons, membership. -/
namespace LK
open PySem PySem.Spec PyProof.Rows L2

/-! ### data as the library has them -/
mutual
theorem toPy_plain : ∀ d : D, ∀ k, D.dok k d = true → (d.toPy).plain = true
  | .non, _, _ => rfl
  | .bl _, _, _ => rfl
  | .int _, _, _ => rfl
  | .str _, _, _ => rfl
  | .ref _, k, h => by cases k <;> simp [D.dok] at h
  | .frl _, k, h => by cases k <;> simp [D.dok] at h
  | .tup xs, 0, h => by simp [D.dok] at h
  | .tup xs, k + 1, h => by
    rw [D.toPy, PyData.plain]
    rw [D.dok] at h
    exact toPyL_plain xs k h
theorem toPyL_plain : ∀ xs : List D, ∀ k, xs.all (D.dok k) = true → PyData.plainAll (D.toPyL xs) = true
  | [], _, _ => rfl
  | x :: xs, k, h => by
    rw [List.all_cons, Bool.and_eq_true] at h
    rw [D.toPyL, PyData.plainAll, toPy_plain x k h.1, toPyL_plain xs k h.2]; rfl
end
mutual
theorem toPy_depth : ∀ d : D, ∀ k, D.dok k d = true → (d.toPy).depth ≤ k
  | .non, _, _ => Nat.zero_le _
  | .bl _, _, _ => Nat.zero_le _
  | .int _, _, _ => Nat.zero_le _
  | .str _, _, _ => Nat.zero_le _
  | .ref _, k, h => by cases k <;> simp [D.dok] at h
  | .frl _, k, h => by cases k <;> simp [D.dok] at h
  | .tup xs, 0, h => by simp [D.dok] at h
  | .tup xs, k + 1, h => by
    rw [D.toPy, PyData.depth]
    rw [D.dok] at h
    exact Nat.succ_le_succ (toPyL_depth xs k h)
theorem toPyL_depth : ∀ xs : List D, ∀ k, xs.all (D.dok k) = true → PyData.depthAll (D.toPyL xs) ≤ k
  | [], _, _ => Nat.zero_le _
  | x :: xs, k, h => by
    rw [List.all_cons, Bool.and_eq_true] at h
    rw [D.toPyL, PyData.depthAll]
    exact Nat.max_le.mpr ⟨toPy_depth x k h.1, toPyL_depth xs k h.2⟩
end
mutual
theorem toPy_eqv : ∀ d : D, ∀ k, D.dok k d = true → ∀ (e : D) j, D.dok j e = true → PyData.eqv d.toPy e.toPy = D.eqv d e
  | .non, _, _, e, j, h2 => by cases e <;> simp_all [D.toPy, PyData.eqv, D.eqv] <;> (cases j <;> simp [D.dok] at h2)
  | .bl b, _, _, e, j, h2 => by cases e <;> simp_all [D.toPy, PyData.eqv, D.eqv] <;> (cases j <;> simp [D.dok] at h2)
  | .int _, _, _, e, j, h2 => by cases e <;> simp_all [D.toPy, PyData.eqv, D.eqv] <;> (cases j <;> simp [D.dok] at h2)
  | .str _, _, _, e, j, h2 => by cases e <;> simp_all [D.toPy, PyData.eqv, D.eqv] <;> (cases j <;> simp [D.dok] at h2)
  | .ref _, k, h, _, _, _ => by cases k <;> simp [D.dok] at h
  | .frl _, k, h, _, _, _ => by cases k <;> simp [D.dok] at h
  | .tup xs, 0, h, _, _, _ => by simp [D.dok] at h
  | .tup xs, k + 1, h, e, j, h2 => by
    rw [D.dok] at h
    cases e with
    | tup ys =>
      cases j with
      | zero => simp [D.dok] at h2
      | succ j =>
        rw [D.dok] at h2
        rw [D.toPy, D.toPy, PyData.eqv, D.eqv]
        exact toPyL_eqv xs k h ys j h2
    | ref n => cases j <;> simp [D.dok] at h2
    | frl n => cases j <;> simp [D.dok] at h2
    | _ => simp [D.toPy, PyData.eqv, D.eqv]
theorem toPyL_eqv : ∀ xs : List D, ∀ k, xs.all (D.dok k) = true → ∀ (ys : List D) j, ys.all (D.dok j) = true → PyData.eqvAll (D.toPyL xs) (D.toPyL ys) = D.eqvL xs ys
  | [], _, _, ys, j, h2 => by cases ys <;> simp [D.toPyL, PyData.eqvAll, D.eqvL]
  | x :: xs, k, h, ys, j, h2 => by
    rw [List.all_cons, Bool.and_eq_true] at h
    cases ys with
    | nil => simp [D.toPyL, PyData.eqvAll, D.eqvL]
    | cons y ys =>
      rw [List.all_cons, Bool.and_eq_true] at h2
      rw [D.toPyL, D.toPyL, PyData.eqvAll, D.eqvL, toPy_eqv x k h.1 y j h2.1, toPyL_eqv xs k h.2 ys j h2.2]
end
section
variable {K : PySem.W.Frag} {ι : List Addr} {H : Hp}
mutual
theorem rv_dp : ∀ {v : V} (d : D) (k : Nat), D.dok k d = true → RV K ι H v d → Dp K H v d.toPy
  | _, .non, _, _, h => by cases h; exact .non
  | _, .bl _, _, _, h => by cases h; exact .bl _
  | _, .int _, _, _, h => by cases h; exact .int _
  | _, .str _, _, _, h => by cases h; exact .str _
  | _, .ref _, k, h, _ => by cases k <;> simp [D.dok] at h
  | _, .frl _, k, h, _ => by cases k <;> simp [D.dok] at h
  | _, .tup xs, 0, h, _ => by simp [D.dok] at h
  | _, .tup xs, k + 1, h, q => by
    rw [D.dok] at h
    rw [D.toPy]
    cases q with
    | tup h1 h2 => exact .tup h1 (rvs_dp xs k h h2)
theorem rvs_dp : ∀ {vs : List V} (ds : List D) (k : Nat), ds.all (D.dok k) = true → RVs K ι H vs ds → DpAll K H vs (D.toPyL ds)
  | _, [], _, _, h => by cases h; exact .nil
  | _, x :: xs, k, h, q => by
    rw [List.all_cons, Bool.and_eq_true] at h
    cases q with
    | cons h1 h2 => exact .cons (rv_dp x k h.1 h1) (rvs_dp xs k h.2 h2)
end
end
theorem toPyL_map : ∀ xs : List D, D.toPyL xs = xs.map D.toPy
  | [] => rfl
  | x :: xs => by rw [D.toPyL, toPyL_map xs]; rfl
theorem any_eqv {d : D} {k j : Nat} (hd : D.dok k d = true) : ∀ xs : List D, xs.all (D.dok j) = true → ((D.toPyL xs).any fun y => PyData.eqv y d.toPy) = xs.any fun z => D.eqv z d
  | [], _ => rfl
  | x :: xs, h => by
    rw [List.all_cons, Bool.and_eq_true] at h
    rw [D.toPyL, List.any_cons, List.any_cons, toPy_eqv x j h.1 d k hd, any_eqv hd xs h.2]

section
variable {X : Cx} {pins : List (Addr × Obj)} {σ : L2.St} {s : Shared} {ι : List Addr} {G : Hpp} {H H0 H1 : Hp} {x y : V} {v u : Value} {r q : R}
  {XC : Str → D → List Addr → Hp → Value → Option Addr → Prop} {W : Value → Option Addr → Hp → Prop} {QQ : R → List Addr → Hpp → Hp → V → Prop}
theorem eqR_dp {b : Bool} (hr : HR X.prog X.w X.K ι G H) (qx : RR X.prog X.w X.K H0 ι H x r) (qy : RR X.prog X.w X.K H1 ι H y q) (h : eqR r q G = some b) :
    ∃ da db : PyData, Dp X.K H x da ∧ Dp X.K H y db ∧ da.plain = true ∧ db.plain = true ∧ da.depth ≤ 61 ∧ PyData.eqv da db = b := by
  have view : ∀ {r : R} {x : V} {H0 : Hp} {ds : List D}, RR X.prog X.w X.K H0 ι H x r → viewOf r G = some (.ls ds) → ∃ a xs, x = .ref a ∧ SqL X.K H a xs ∧ RVs X.K ι H xs ds := by
    intro r x H0 ds qx e
    refine rr_lstOf (r := r) hr qx ?_
    cases r with
    | val d =>
      cases d <;> simp [viewOf, lstOf] at e ⊢ <;> first | exact e | (obtain ⟨z, h1, h2⟩ := e; cases h2; exact h1)
    | newL es => simp [viewOf, lstOf, lstM] at e ⊢; exact e
    | newD t kvs => simp [viewOf] at e
    | newS es => simp [viewOf] at e
  have viewS : ∀ {r : R} {x : V} {H0 : Hp} {d : D}, RR X.prog X.w X.K H0 ι H x r → viewOf r G = some (.sc d) → RV X.K ι H x d := by
    intro r x H0 d qx e
    cases r with
    | val d' =>
      cases d' <;> simp [viewOf] at e <;> (subst e; exact qx)
    | newL es => simp [viewOf] at e
    | newD t kvs => simp [viewOf] at e
    | newS es => simp [viewOf] at e
  unfold eqR at h
  split at h
  · cases rv_int qx; cases rv_int qy
    cases h
    exact ⟨_, _, .int _, .int _, rfl, rfl, Nat.zero_le _, by simp [PyData.eqv, Bool.beq_eq_decide_eq]⟩
  · cases rv_bl qx; cases rv_bl qy
    cases h
    exact ⟨_, _, .bl _, .bl _, rfl, rfl, Nat.zero_le _, by simp [PyData.eqv, Bool.beq_eq_decide_eq]⟩
  · cases rv_str qx; cases rv_str qy
    cases h
    exact ⟨_, _, .str _, .str _, rfl, rfl, Nat.zero_le _, by simp [PyData.eqv, Bool.beq_eq_decide_eq]⟩
  · split at h
    · rename_i a b' e1 e2
      split at h
      · rename_i hk
        rw [Bool.and_eq_true] at hk
        cases h
        exact ⟨_, _, rv_dp _ 60 hk.1 (viewS qx e1), rv_dp _ 60 hk.2 (viewS qy e2), toPy_plain _ _ hk.1, toPy_plain _ _ hk.2, Nat.le_trans (toPy_depth _ _ hk.1) (by decide), toPy_eqv _ _ hk.1 _ _ hk.2⟩
      · cases h
    · rename_i xs ys e1 e2
      split at h
      · rename_i hk
        rw [Bool.and_eq_true] at hk
        cases h
        obtain ⟨a, vs, rfl, h1, h2⟩ := view qx e1
        obtain ⟨b, us, rfl, h3, h4⟩ := view qy e2
        refine ⟨.list _, .list _, .lst h1 (rvs_dp _ 60 hk.1 h2), .lst h3 (rvs_dp _ 60 hk.2 h4), ?_, ?_, ?_, ?_⟩
        · rw [PyData.plain]; exact toPyL_plain _ _ hk.1
        · rw [PyData.plain]; exact toPyL_plain _ _ hk.2
        · rw [PyData.depth]; exact Nat.succ_le_succ (toPyL_depth _ _ hk.1)
        · rw [PyData.eqv]; exact toPyL_eqv _ _ hk.1 _ _ hk.2
      · cases h
    · rename_i a ys e1 e2
      split at h
      · rename_i hk
        rw [Bool.and_eq_true] at hk
        cases h
        obtain ⟨b, us, rfl, h3, h4⟩ := view qy e2
        refine ⟨_, .list _, rv_dp _ 60 hk.1 (viewS qx e1), .lst h3 (rvs_dp _ 60 hk.2 h4), toPy_plain _ _ hk.1, ?_, Nat.le_trans (toPy_depth _ _ hk.1) (by decide), ?_⟩
        · rw [PyData.plain]; exact toPyL_plain _ _ hk.2
        · have h5 := hk.1
          cases a <;> first | rfl | (simp [D.dok] at h5)
      · cases h
    · rename_i xs b' e1 e2
      split at h
      · rename_i hk
        rw [Bool.and_eq_true] at hk
        cases h
        obtain ⟨b, us, rfl, h3, h4⟩ := view qx e1
        refine ⟨.list _, _, .lst h3 (rvs_dp _ 60 hk.1 h4), rv_dp _ 60 hk.2 (viewS qy e2), ?_, toPy_plain _ _ hk.2, ?_, ?_⟩
        · rw [PyData.plain]; exact toPyL_plain _ _ hk.1
        · rw [PyData.depth]; exact Nat.succ_le_succ (toPyL_depth _ _ hk.1)
        · have h5 := hk.2
          cases b' <;> first | rfl | (simp [D.dok] at h5)
      · cases h
    · cases h
def Cop.op : Cop → CmpOp
  | .eq => .Eq | .ne => .NotEq | .lt => .Lt | .le => .LtE | .gt => .Gt | .ge => .GtE | .is => .Is | .isn => .IsNot | .isin => .In | .notin => .NotIn
theorem eq_ok {b : Bool} (hu : X.A.units + 150 < cLine) (I : Inv X pins σ H s) (hr : HR X.prog X.w X.K ι G H) (rx : L2.RelV x v) (ry : L2.RelV y u) (qx : RR X.prog X.w X.K H0 ι H x r) (qy : RR X.prog X.w X.K H1 ι H y q)
    (e : eqR r q G = some b) {Q : VK} (h : Q (.bl b) H) : wpAny (model X.prog X.w) X.A (compareOp .Eq v u) (EP X pins σ Q) X.xe s := by
  obtain ⟨da, db, d1, d2, p1, p2, hd, hv⟩ := eqR_dp hr qx qy e
  obtain ⟨as, r1⟩ := Dp.reads I _ _ _ d1 rx
  obtain ⟨bs, r2⟩ := Dp.reads I _ _ _ d2 ry
  exact SeqAt.eq_plain r1 r2 p1 p2 (by have := Nat.min_le_left da.depth db.depth; omega) ⟨.bl b, H, I, by rw [hv]; rfl, h⟩
theorem ne_ok {b : Bool} (hu : X.A.units + 150 < cLine) (I : Inv X pins σ H s) (hr : HR X.prog X.w X.K ι G H) (rx : L2.RelV x v) (ry : L2.RelV y u) (qx : RR X.prog X.w X.K H0 ι H x r) (qy : RR X.prog X.w X.K H1 ι H y q)
    (e : eqR r q G = some b) {Q : VK} (h : Q (.bl (!b)) H) : wpAny (model X.prog X.w) X.A (compareOp .NotEq v u) (EP X pins σ Q) X.xe s := by
  obtain ⟨da, db, d1, d2, p1, p2, hd, hv⟩ := eqR_dp hr qx qy e
  obtain ⟨as, r1⟩ := Dp.reads I _ _ _ d1 rx
  obtain ⟨bs, r2⟩ := Dp.reads I _ _ _ d2 ry
  exact SeqAt.ne_plain r1 r2 p1 p2 (by have := Nat.min_le_left da.depth db.depth; omega) ⟨.bl (!b), H, I, by rw [hv]; rfl, h⟩
/-! ### is -/
theorem rv_none {d : D} (h : RV X.K ι H x d) : decide (x = .non) = decide (d = .non) := by
  cases h <;> simp
theorem isR_val {b : Bool} (rx : L2.RelV x v) (ry : L2.RelV y u) (qx : RR X.prog X.w X.K H0 ι H x r) (qy : RR X.prog X.w X.K H1 ι H y q) (e : isR r q = some b) : plainIs v u = true ∧ (v == u) = b := by
  have val : ∀ {d : D} {c : Bool}, RV X.K ι H x d → u = Value.bool c → plainIs v u = true ∧ (v == u) = decide (d = .bl c) := by
    intro d c q hu
    subst hu
    cases q with
    | non => cases rx; exact ⟨rfl, by simp⟩
    | bl b' => cases rx; exact ⟨rfl, by rw [Bool.eq_iff_iff]; simp⟩
    | int i => obtain ⟨t, rfl⟩ := rx; exact ⟨rfl, by simp⟩
    | str i => obtain ⟨t, rfl⟩ := rx; exact ⟨rfl, by simp⟩
    | tup _ _ => cases rx; exact ⟨rfl, by simp⟩
    | ref _ => cases rx; exact ⟨rfl, by simp⟩
    | frl _ _ => cases rx; exact ⟨rfl, by simp⟩
  have non : ∀ {d : D}, RV X.K ι H x d → u = Value.none → plainIs v u = true ∧ (v == u) = decide (d = .non) := by
    intro d q hu
    subst hu
    cases q with
    | non => cases rx; exact ⟨rfl, by simp⟩
    | bl b' => cases rx; exact ⟨rfl, by simp⟩
    | int i => obtain ⟨t, rfl⟩ := rx; exact ⟨rfl, by simp⟩
    | str i => obtain ⟨t, rfl⟩ := rx; exact ⟨rfl, by simp⟩
    | tup _ _ => cases rx; exact ⟨rfl, by simp⟩
    | ref _ => cases rx; exact ⟨rfl, by simp⟩
    | frl _ _ => cases rx; exact ⟨rfl, by simp⟩
  unfold isR at e
  split at e
  · cases e
    cases rv_non qy
    exact non qx ry
  · cases e
    cases rv_non qy
    obtain ⟨a, xs, rfl, _⟩ := qx
    cases rx; cases ry
    exact ⟨rfl, by simp⟩
  · cases e
    cases rv_bl qy
    exact val qx ry
  · cases e
theorem is_ok {b : Bool} (I : Inv X pins σ H s) (rx : L2.RelV x v) (ry : L2.RelV y u) (qx : RR X.prog X.w X.K H0 ι H x r) (qy : RR X.prog X.w X.K H1 ι H y q) (e : isR r q = some b) {Q : VK} (h : Q (.bl b) H) :
    wpAny (model X.prog X.w) X.A (compareOp .Is v u) (EP X pins σ Q) X.xe s := by
  obtain ⟨h1, h2⟩ := isR_val rx ry qx qy e
  exact wpAny_is_plain h1 ⟨.bl b, H, I, by rw [h2]; rfl, h⟩
theorem isn_ok {b : Bool} (I : Inv X pins σ H s) (rx : L2.RelV x v) (ry : L2.RelV y u) (qx : RR X.prog X.w X.K H0 ι H x r) (qy : RR X.prog X.w X.K H1 ι H y q) (e : isR r q = some b) {Q : VK} (h : Q (.bl (!b)) H) :
    wpAny (model X.prog X.w) X.A (compareOp .IsNot v u) (EP X pins σ Q) X.xe s := by
  obtain ⟨h1, h2⟩ := isR_val rx ry qx qy e
  exact wpAny_isNot_plain h1 ⟨.bl (!b), H, I, by rw [h2]; rfl, h⟩
/-! ### order -/
theorem alike_of {a b : D} (h : alikeD a b = true) : D.dok 60 a = true ∧ D.dok 60 b = true ∧ PySem.W.alike a.toPy b.toPy = true ∧ a.toPy ≠ .none := by
  simp only [alikeD, Bool.and_eq_true, decide_eq_true_eq] at h
  obtain ⟨⟨⟨h1, h2⟩, h3⟩, h4⟩ := h
  refine ⟨h1, h2, h3, fun e => ?_⟩
  cases a <;> simp [D.toPy] at e <;> first | exact h4 rfl | (simp [D.dok] at h1)
theorem ord_ok {op : Cop} {b : Bool} (hu : X.A.units + 150 < cLine) (I : Inv X pins σ H s) (rx : L2.RelV x v) (ry : L2.RelV y u) (qx : RR X.prog X.w X.K H0 ι H x r) (qy : RR X.prog X.w X.K H1 ι H y q) (e : ordR op r q = some b) {Q : VK} (h : Q (.bl b) H) :
    wpAny (model X.prog X.w) X.A (compareOp op.op v u) (EP X pins σ Q) X.xe s := by
  unfold ordR at e
  split at e
  · cases rv_int qx; cases rv_int qy
    split at e
    · cases e; exact op_lt pins s σ H _ _ v u _ I rx ry ⟨_, _, rfl, rfl, h⟩
    · cases e; exact op_le pins s σ H _ _ v u _ I rx ry ⟨_, _, rfl, rfl, h⟩
    · cases e; exact op_gt pins s σ H _ _ v u _ I rx ry ⟨_, _, rfl, rfl, h⟩
    · cases e; exact op_ge pins s σ H _ _ v u _ I rx ry ⟨_, _, rfl, rfl, h⟩
    · cases e
  · rename_i a c hno
    split at e
    · rename_i hk
      obtain ⟨h1, h2, h3, h4⟩ := alike_of hk
      obtain ⟨as, r1⟩ := Dp.reads I _ _ _ (rv_dp _ 60 h1 qx) rx
      obtain ⟨bs, r2⟩ := Dp.reads I _ _ _ (rv_dp _ 60 h2 qy) ry
      have hd : ∀ m : Nat, X.A.units + min a.toPy.depth m < cLine := fun m => by
        have h5 := toPy_depth _ _ h1
        have h6 := Nat.min_le_left a.toPy.depth m
        omega
      split at e
      · cases e; exact W.lt_data r1 r2 h3 h4 (hd _) ⟨.bl _, H, I, rfl, h⟩
      · cases e; exact W.le_data r1 r2 h3 h4 (hd _) ⟨.bl _, H, I, rfl, h⟩
      · cases e; exact W.gt_data r1 r2 h3 h4 (hd _) ⟨.bl _, H, I, rfl, h⟩
      · cases e; exact W.ge_data r1 r2 h3 h4 (hd _) ⟨.bl _, H, I, rfl, h⟩
      · cases e
    · cases e
  · cases e
end
end LK

set_option Elab.async false
set_option linter.all false
set_option autoImplicit false
set_option maxRecDepth 100000
set_option maxHeartbeats 4000000
/-! LkIn: dicts and membership. -/
namespace LK
open PySem PySem.Spec PyProof.Rows L2

theorem dfind_pos {p : D × D} {r : List (D × D)} {d : D} (e : p.1 = d) : dfind (p :: r) d = some p.2 := by simp [dfind, List.find?_cons, e]
theorem dfind_neg {p : D × D} {r : List (D × D)} {d : D} (e : ¬ p.1 = d) : dfind (p :: r) d = dfind r d := by simp [dfind, List.find?_cons, e]
theorem atKey_pos {p : NestedKey × Addr × Value} {r : List (NestedKey × Addr × Value)} {d : NestedKey} (e : p.1 = d) : atKey (p :: r) d = some p.2 := by simp [atKey, List.find?_cons, e]
theorem atKey_neg {p : NestedKey × Addr × Value} {r : List (NestedKey × Addr × Value)} {d : NestedKey} (e : ¬ p.1 = d) : atKey (p :: r) d = atKey r d := by simp [atKey, List.find?_cons, e]
mutual
theorem nk_inj : ∀ (a : D) (k : Nat) (b : D) (j : Nat), D.kok k a = true → D.kok j b = true → nk a = nk b → a = b
  | .int i, _, b, j, _, hb, e => by
    cases b with
    | int i' => rw [nk, nk] at e; cases e; rfl
    | str _ => simp [nk] at e
    | tup _ => simp [nk] at e
    | _ => cases j <;> simp [D.kok] at hb
  | .str i, _, b, j, _, hb, e => by
    cases b with
    | str i' => rw [nk, nk] at e; cases e; rfl
    | int _ => simp [nk] at e
    | tup _ => simp [nk] at e
    | _ => cases j <;> simp [D.kok] at hb
  | .tup xs, k, b, j, ha, hb, e => by
    cases b with
    | tup ys =>
      cases k with
      | zero => simp [D.kok] at ha
      | succ k =>
        cases j with
        | zero => simp [D.kok] at hb
        | succ j =>
          rw [D.kok] at ha hb
          rw [nk, nk] at e
          injection e with e
          rw [nkL_inj xs k ys j ha hb e]
    | int _ => simp [nk] at e
    | str _ => simp [nk] at e
    | _ => cases j <;> simp [D.kok] at hb
  | .non, k, _, _, ha, _, _ => by cases k <;> simp [D.kok] at ha
  | .bl _, k, _, _, ha, _, _ => by cases k <;> simp [D.kok] at ha
  | .ref _, k, _, _, ha, _, _ => by cases k <;> simp [D.kok] at ha
  | .frl _, k, _, _, ha, _, _ => by cases k <;> simp [D.kok] at ha
theorem nkL_inj : ∀ (a : List D) (k : Nat) (b : List D) (j : Nat), a.all (D.kok k) = true → b.all (D.kok j) = true → nkL a = nkL b → a = b
  | [], _, [], _, _, _, _ => rfl
  | [], _, _ :: _, _, _, _, e => by simp [nkL] at e
  | _ :: _, _, [], _, _, _, e => by simp [nkL] at e
  | x :: xs, k, y :: ys, j, ha, hb, e => by
    rw [List.all_cons, Bool.and_eq_true] at ha hb
    rw [nkL, nkL] at e
    injection e with e1 e2
    rw [nk_inj x k y j ha.1 hb.1 e1, nkL_inj xs k ys j ha.2 hb.2 e2]
end
mutual
theorem nk_depth : ∀ (a : D) (k : Nat), D.kok k a = true → (nk a).depth ≤ k
  | .int i, _, _ => Nat.zero_le _
  | .str i, _, _ => Nat.zero_le _
  | .tup xs, 0, ha => by simp [D.kok] at ha
  | .tup xs, k + 1, ha => by
    rw [D.kok] at ha
    rw [nk, NestedKey.depth]
    exact Nat.succ_le_succ (nkL_depth xs k ha)
  | .non, k, _ => Nat.zero_le _
  | .bl _, k, _ => Nat.zero_le _
  | .ref _, k, _ => Nat.zero_le _
  | .frl _, k, _ => Nat.zero_le _
theorem nkL_depth : ∀ (a : List D) (k : Nat), a.all (D.kok k) = true → NestedKey.depthAll (nkL a) ≤ k
  | [], _, _ => Nat.zero_le _
  | x :: xs, k, ha => by
    rw [List.all_cons, Bool.and_eq_true] at ha
    rw [nkL, NestedKey.depthAll]
    exact Nat.max_le.mpr ⟨nk_depth x k ha.1, nkL_depth xs k ha.2⟩
end
section
variable {X : Cx} {pins : List (Addr × Obj)} {σ : L2.St} {s : Shared} {ι : List Addr} {G : Hpp} {H H0 H1 : Hp} {x y : V} {v u : Value} {r q : R}
  {XC : Str → D → List Addr → Hp → Value → Option Addr → Prop} {W : Value → Option Addr → Hp → Prop} {QQ : R → List Addr → Hpp → Hp → V → Prop}
mutual
theorem nk_is (I : Inv X pins σ H s) : ∀ (d : D) (k : Nat) (x : V) (v : Value), D.kok k d = true → RV X.K ι H x d → L2.RelV x v → NestedIs s.heap (nk d) v
  | .int i, _, _, _, _, h, r => by cases h; obtain ⟨t, rfl⟩ := r; exact .int _ _
  | .str i, _, _, _, _, h, r => by cases h; obtain ⟨t, rfl⟩ := r; exact .text _ _
  | .tup xs, 0, _, _, hk, _, _ => by simp [D.kok] at hk
  | .tup xs, k + 1, _, _, hk, h, r => by
    rw [D.kok] at hk
    cases h with
    | tup h1 h2 =>
      cases r
      obtain ⟨its, rv, ⟨o, ho, hc, n, hd⟩, _⟩ := I.tuple h1
      exact .tup ho hc hd (nkL_is I xs k _ _ hk h2 rv)
  | .non, k, _, _, hk, _, _ => by cases k <;> simp [D.kok] at hk
  | .bl _, k, _, _, hk, _, _ => by cases k <;> simp [D.kok] at hk
  | .ref _, k, _, _, hk, _, _ => by cases k <;> simp [D.kok] at hk
  | .frl _, k, _, _, hk, _, _ => by cases k <;> simp [D.kok] at hk
theorem nkL_is (I : Inv X pins σ H s) : ∀ (ds : List D) (k : Nat) (xs : List V) (vs : List Value), ds.all (D.kok k) = true → RVs X.K ι H xs ds → Vals xs vs → NestedAll s.heap (nkL ds) vs
  | [], _, _, _, _, h, r => by cases h; cases r; exact .nil
  | d :: ds, k, _, _, hk, h, r => by
    rw [List.all_cons, Bool.and_eq_true] at hk
    cases h with
    | cons h1 h2 =>
      cases r with
      | cons r1 r2 => exact .cons (nk_is I d k _ _ hk.1 h1 r1) (nkL_is I ds k _ _ hk.2 h2 r2)
end
/-- what is found in both -/
def Both (K : PySem.W.Frag) (ι : List Addr) (H : Hp) : Option V → Option D → Prop
  | some v, some d => RV K ι H v d
  | none, none => True
  | _, _ => False
theorem Both.isSome {K : PySem.W.Frag} {o : Option V} {d : Option D} (h : Both K ι H o d) : o.isSome = d.isSome := by
  cases o <;> cases d <;> first | rfl | exact h.elim
theorem key_of {d : D} (hk : keyFor false d = true) (h : RV X.K ι H x d) : ∃ k : Key, x = kV k := by
  simp only [keyFor, Bool.and_eq_true] at hk
  cases h with
  | int i => exact ⟨.inl i, rfl⟩
  | str i => exact ⟨.inr i, rfl⟩
  | _ => simp [D.kok, D.isTup] at hk
theorem kV_rv {k : Key} {d : D} (h : RV X.K ι H (kV k) d) : d = (match k with | .inl i => .int i | .inr z => .str z) := by
  cases k with
  | inl i => cases h; rfl
  | inr z => cases h; rfl
theorem kV_dec {k j : Key} {d e : D} (h : RV X.K ι H (kV k) d) (h' : RV X.K ι H (kV j) e) : decide (k = j) = decide (d = e) := by
  rw [kV_rv h, kV_rv h']
  cases k <;> cases j <;> simp
theorem find_k {k : Key} {d : D} (h : RV X.K ι H (kV k) d) : ∀ {ks : List (Key × V)} {kvs : List (D × D)}, Paired (fun (q : Key × V) (p : D × D) => RV X.K ι H (kV q.1) p.1 ∧ RV X.K ι H q.2 p.2) ks kvs → Both X.K ι H (valV ks k) (dfind kvs d)
  | _, _, .nil => trivial
  | q :: ks, p :: kvs, .cons h1 hs => by
    have e := kV_dec h1.1 h
    by_cases hq : q.1 = k
    · have hp : p.1 = d := of_decide_eq_true (by rw [← e]; exact decide_eq_true hq)
      rw [valV_pos hq, dfind_pos hp]
      exact h1.2
    · have hp : ¬ p.1 = d := of_decide_eq_false (by rw [← e]; exact decide_eq_false hq)
      rw [valV_neg hq, dfind_neg hp]
      exact find_k h hs
abbrev TP2 (X : Cx) (ι : List Addr) (H : Hp) : NestedKey × Addr × Value → D × D → Prop := fun x p => x.1 = nk p.1 ∧ D.kok 8 p.1 = true ∧ p.1.isTup = true ∧ RV X.K ι H (.ref x.2.1) p.1 ∧ ∃ y, L2.RelV y x.2.2 ∧ RV X.K ι H y p.2
theorem find_t {d : D} (hk : D.kok 8 d = true) : ∀ {xs : List (NestedKey × Addr × Value)} {kvs : List (D × D)}, Paired (TP2 X ι H) xs kvs →
    (atKey xs (nk d)).isSome = (dfind kvs d).isSome ∧ ∀ e, dfind kvs d = some e → ∃ p, atKey xs (nk d) = some p ∧ ∃ y, L2.RelV y p.2 ∧ RV X.K ι H y e
  | _, _, .nil => ⟨rfl, fun e h => by cases h⟩
  | x :: xs, p :: kvs, .cons ⟨h1, h2, h3, h4, h5⟩ hs => by
    obtain ⟨i1, i2⟩ := find_t hk hs
    by_cases hp : p.1 = d
    · have hx : x.1 = nk d := by rw [h1, hp]
      refine ⟨?_, fun e he => ?_⟩
      · rw [atKey_pos hx, dfind_pos hp]; rfl
      · rw [dfind_pos hp] at he
        have he' : p.2 = e := Option.some.inj he
        rw [atKey_pos hx]
        subst he'
        exact ⟨_, rfl, h5⟩
    · have hx : ¬ x.1 = nk d := fun e => hp (nk_inj _ _ _ _ h2 hk (h1 ▸ e))
      refine ⟨?_, fun e he => ?_⟩
      · rw [atKey_neg hx, dfind_neg hp]; exact i1
      · rw [dfind_neg hp] at he
        rw [atKey_neg hx]
        exact i2 e he
theorem dictOb_at {a : Addr} {xs : List (NestedKey × Addr × Value)} {kvs : List (D × D)} (I : Inv X pins σ H s) (h : H a = some (DictOb X.prog X.w a xs)) (hp : Paired (TP2 X ι H) xs kvs) :
    (a == sysModules) = false ∧ s.heap.DictOfH (nestedKind X.prog X.w) a xs := by
  obtain ⟨⟨hs, o, es, ep, h1, h2, h3, h4, h5⟩, _⟩ := I.hok a _ h
  refine ⟨hs, o, es, ep, h1, h2, h3, h4, fun x hx => ?_, h5⟩
  have all : ∀ {l : List (NestedKey × Addr × Value)} {m : List (D × D)}, Paired (TP2 X ι H) l m → ∀ x ∈ l, (nestedKind X.prog X.w).is s.heap x.1 x.2.1 := by
    intro l m q
    induction q with
    | nil => intro x hx; exact nomatch hx
    | @cons p q ps qs hq t ih =>
      intro x hx
      rcases List.mem_cons.mp hx with e | hx
      · subst e
        obtain ⟨h1, h2, h3, h4, h5⟩ := hq
        refine ⟨?_, ?_⟩
        · rw [h1]; exact nk_is I _ 8 _ _ h2 h4 rfl
        · rw [h1]; exact nk_depth _ _ h2
      · exact ih x hx
  exact all hp x hx
theorem key_t {d : D} (hk : keyFor true d = true) (I : Inv X pins σ H s) (h : RV X.K ι H x d) (rx : L2.RelV x v) : ∃ b, v = .ref b ∧ x = .ref b ∧ (nestedKind X.prog X.w).is s.heap (nk d) b ∧ D.kok 8 d = true := by
  simp only [keyFor, Bool.and_eq_true] at hk
  cases h with
  | tup h1 h2 =>
    cases rx
    exact ⟨_, rfl, rfl, ⟨nk_is I _ 8 _ _ hk.1 (.tup h1 h2) rfl, nk_depth _ _ hk.1⟩, hk.1⟩
  | _ => simp [D.isTup] at hk
/-- d in a dict, d not in it -/
theorem inDict_ok {a : Addr} {t : Bool} {kvs : List (D × D)} {d : D} (hu : X.A.units + 150 < cLine) (I : Inv X pins σ H s) (rx : L2.RelV x v) (qx : RV X.K ι H x d) (hd : DctOk X.prog X.w X.K ι H a t kvs) (hk : keyFor t d = true) {Q : VK} {neg : Bool} (h : Q (.bl (if neg = true then !(dfind kvs d).isSome else (dfind kvs d).isSome)) H) :
    wpAny (model X.prog X.w) X.A (compareOp (if neg = true then .NotIn else .In) v (.ref a)) (EP X pins σ Q) X.xe s := by
  cases t with
  | false =>
    obtain ⟨ks, h1, h2⟩ := hd
    obtain ⟨k, rfl⟩ := key_of hk qx
    have b := (find_k qx h2).isSome
    cases neg with
    | false => exact d_in (by omega) I (DGet.k h1) rx fun s' I' => ⟨.bl _, H, I', rfl, by rw [b]; exact h⟩
    | true => exact d_notIn (by omega) I (DGet.k h1) rx fun s' I' => ⟨.bl _, H, I', rfl, by rw [b]; exact h⟩
  | true =>
    obtain ⟨xs, h1, _, h2⟩ := hd
    obtain ⟨hs, hh⟩ := dictOb_at I h1 h2
    obtain ⟨b, rfl, rfl, hi, hk8⟩ := key_t hk I qx rx
    have e := (find_t (X := X) (ι := ι) (H := H) hk8 h2).1
    have hroom : (nestedKind X.prog X.w).room X.A.in1 := by show X.A.units + 1 + 8 < cLine; omega
    cases neg with
    | false => exact wpAny_in_heap hroom hi hs hh ⟨.bl _, H, I.tok _, rfl, by rw [e]; exact h⟩
    | true => exact wpAny_notIn_heap hroom hi hs hh ⟨.bl _, H, I.tok _, rfl, by rw [e]; exact h⟩
theorem getDict_ok {a : Addr} {t : Bool} {kvs : List (D × D)} {d e : D} (hu : X.A.units + 150 < cLine) (I : Inv X pins σ H s) (rx : L2.RelV x v) (qx : RV X.K ι H x d) (hd : DctOk X.prog X.w X.K ι H a t kvs) (hk : keyFor t d = true) (hf : dfind kvs d = some e) {Q : VK}
    (h : ∀ y, RV X.K ι H y e → Q y H) : wpAny (model X.prog X.w) X.A (getItem (.ref a) v) (EP X pins σ Q) X.xe s := by
  cases t with
  | false =>
    obtain ⟨ks, h1, h2⟩ := hd
    obtain ⟨k, rfl⟩ := key_of hk qx
    have b := find_k qx h2
    rw [hf] at b
    cases ez : valV ks k with
    | none => rw [ez] at b; exact b.elim
    | some z =>
      rw [ez] at b
      exact d_getItem (by omega) I (by rw [← ez]; exact DGet.k h1) rx fun w' s' I' r' => ⟨z, H, I', r', h z b⟩
  | true =>
    obtain ⟨xs, h1, _, h2⟩ := hd
    obtain ⟨hs, hh⟩ := dictOb_at I h1 h2
    obtain ⟨b, rfl, rfl, hi, hk8⟩ := key_t hk I qx rx
    obtain ⟨p, hp, y, r1, r2⟩ := (find_t (X := X) (ι := ι) (H := H) hk8 h2).2 e hf
    have hroom : (nestedKind X.prog X.w).room X.A.in1 := by show X.A.units + 1 + 8 < cLine; omega
    exact wpAny_getItem_heap hroom hi hh hp ⟨y, H, I.tok _, r1, h y r2⟩
theorem inR_ok {b neg : Bool} (hu : X.A.units + 150 < cLine) (I : Inv X pins σ H s) (hr : HR X.prog X.w X.K ι G H) (rx : L2.RelV x v) (ry : L2.RelV y u) (qx : RR X.prog X.w X.K H0 ι H x r) (qy : RR X.prog X.w X.K H1 ι H y q)
    (e : inR r q G = some b) {Q : VK} (h : Q (.bl (if neg = true then !b else b)) H) : wpAny (model X.prog X.w) X.A (compareOp (if neg = true then .NotIn else .In) v u) (EP X pins σ Q) X.xe s := by
  have seqc : ∀ {d : D} {ds : List D} {a : Addr} {xs : List V}, RV X.K ι H x d → y = .ref a → (SqL X.K H a xs ∨ SqT X.K H a xs) → RVs X.K ι H xs ds → (D.dok 60 d && ds.all (D.dok 60)) = true → (ds.any fun z => D.eqv z d) = b →
      wpAny (model X.prog X.w) X.A (compareOp (if neg = true then .NotIn else .In) v u) (EP X pins σ Q) X.xe s := by
    intro d ds a xs qd ey hs hxs hk hb
    subst ey
    cases ry
    rw [Bool.and_eq_true] at hk
    obtain ⟨as, r1⟩ := Dp.reads I _ _ _ (rv_dp _ 60 hk.1 qd) rx
    have hroom : X.A.units + 1 + min (PyData.depthAll (D.toPyL ds)) d.toPy.depth < cLine := by
      have h5 := toPyL_depth _ _ hk.2
      have h6 := Nat.min_le_left (PyData.depthAll (D.toPyL ds)) d.toPy.depth
      omega
    have he := any_eqv hk.1 ds hk.2
    rw [hb] at he
    have pl := toPyL_plain _ _ hk.2
    have pd := toPy_plain _ _ hk.1
    rcases hs with hs | hs
    · obtain ⟨bs, r2⟩ := Dp.reads I (.list (D.toPyL ds)) _ (.ref a) (.lst hs (rvs_dp _ 60 hk.2 hxs)) rfl
      cases neg with
      | false => exact SeqAt.in_list_data r2 r1 pl pd hroom ⟨.bl b, H, I, by rw [he]; rfl, h⟩
      | true => exact SeqAt.notIn_list_data r2 r1 pl pd hroom ⟨.bl (!b), H, I, by rw [he]; rfl, h⟩
    · obtain ⟨bs, r2⟩ := Dp.reads I (.tuple (D.toPyL ds)) _ (.ref a) (.tup hs (rvs_dp _ 60 hk.2 hxs)) rfl
      cases neg with
      | false => exact SeqAt.in_tuple_data r2 r1 pl pd hroom ⟨.bl b, H, I, by rw [he]; rfl, h⟩
      | true => exact SeqAt.notIn_tuple_data r2 r1 pl pd hroom ⟨.bl (!b), H, I, by rw [he]; rfl, h⟩
  unfold inR at e
  split at e
  · cases qy with
    | ref hn =>
      split at e
      · rename_i t kvs hg
        split at e
        · rename_i hk
          cases e
          cases ry
          exact inDict_ok hu I rx qx (hr.cell _ _ _ hg hn) hk h
        · cases e
      · rename_i ds hg
        split at e
        · rename_i hk
          obtain ⟨xs, h1, h2⟩ := hr.cell _ _ _ hg hn
          exact seqc qx rfl (.inl (SqL.of h1)) h2 hk (Option.some.inj e)
        · cases e
      · cases e
  · split at e
    · rename_i hk
      obtain ⟨a, xs, e1, h1, h2⟩ := rv_tup qy
      exact seqc qx e1 (.inr h1) h2 hk (Option.some.inj e)
    · cases e
  · split at e
    · rename_i hk
      obtain ⟨a, xs, e1, h1, h2, _⟩ := qy
      exact seqc qx e1 (.inl (SqL.of h1)) h2 hk (Option.some.inj e)
    · cases e
  · cases e
theorem cmp_ok {op : Cop} {b : Bool} (hu : X.A.units + 150 < cLine) (I : Inv X pins σ H s) (hr : HR X.prog X.w X.K ι G H) (rx : L2.RelV x v) (ry : L2.RelV y u) (qx : RR X.prog X.w X.K H0 ι H x r) (qy : RR X.prog X.w X.K H1 ι H y q)
    (e : cmpR op r q G = some b) {Q : VK} (h : Q (.bl b) H) : wpAny (model X.prog X.w) X.A (compareOp op.op v u) (EP X pins σ Q) X.xe s := by
  have neg : ∀ {o : Option Bool}, o.map (!·) = some b → ∃ c, o = some c ∧ b = !c := fun {o} z => by
    cases o with
    | none => cases z
    | some c => exact ⟨c, rfl, (Option.some.inj z).symm⟩
  cases op with
  | eq => exact eq_ok hu I hr rx ry qx qy e h
  | ne => obtain ⟨c, e1, rfl⟩ := neg e; exact ne_ok hu I hr rx ry qx qy e1 h
  | is => exact is_ok I rx ry qx qy e h
  | isn => obtain ⟨c, e1, rfl⟩ := neg e; exact isn_ok I rx ry qx qy e1 h
  | isin => exact inR_ok (neg := false) hu I hr rx ry qx qy e h
  | notin => obtain ⟨c, e1, rfl⟩ := neg e; exact inR_ok (neg := true) hu I hr rx ry qx qy e1 h
  | lt => exact ord_ok (op := .lt) hu I rx ry qx qy e h
  | le => exact ord_ok (op := .le) hu I rx ry qx qy e h
  | gt => exact ord_ok (op := .gt) hu I rx ry qx qy e h
  | ge => exact ord_ok (op := .ge) hu I rx ry qx qy e h
end
end LK

set_option Elab.async false
set_option linter.all false
set_option autoImplicit false
set_option maxRecDepth 100000
set_option maxHeartbeats 4000000
/-! LkSeq: subscripts, slices, lengths, built-ins over sequences, methods of lists. -/
namespace LK
open PySem PySem.Spec PyProof.Rows L2

theorem rvs_atI {K : PySem.W.Frag} {ι : List Addr} {H : Hp} {xs : List V} {ds : List D} {i : Int} {d : D} (h : RVs K ι H xs ds) (e : L2.atI ds i = some d) : ∃ z, L2.atI xs i = some z ∧ RV K ι H z d := by
  unfold L2.atI at e ⊢
  rw [h.length]
  cases q : L2.ixN ds.length i with
  | none => rw [q] at e; cases e
  | some j =>
    rw [q] at e
    exact h.get e
section
variable {X : Cx} {pins : List (Addr × Obj)} {σ : L2.St} {s : Shared} {ι : List Addr} {G : Hpp} {H H0 H1 : Hp} {x y : V} {v u : Value} {r q : R}
  {XC : Str → D → List Addr → Hp → Value → Option Addr → Prop} {W : Value → Option Addr → Hp → Prop} {QQ : R → List Addr → Hpp → Hp → V → Prop}
/-! ### subscripts -/
theorem subTail_dict {prog : Program} {w : World} {A : Around} {E : Value → Shared → Prop} {value slice : Expr} {o i : Value} {Q : Value → Shared → Prop} (hT : s.TypeIs o "dict") (hs : subscripted slice false o i = operate [o, i] (getItem o i))
    (h : wpAny (model prog w) A (getItem o i) Q E s) : wpAny (model prog w) A (subscriptTail value slice o i) Q E s := by
  unfold subscriptTail
  refine wpAny_bind ?_
  rw [getitemInPython_of_ne hT.not_modules]
  refine wpAny_bind (wpAny_specialOf hT PySem.F.slot_dict_getitem.lookup ?_)
  have fin : wpAny (model prog w) A (subscripted slice false o i) (fun r s₃ => wpAny (model prog w) A (letTemporaryGo value o r >>= fun _ => pure r) Q E s₃) E s := by
    rw [hs]
    exact wpAny_operating (wpAny_mono h (fun r s₃ h₃ => wpAny_bind (wpAny_letTemporaryGo (wpAny_pure h₃))) fun _ _ x => x)
  first
    | exact wpAny_pure (wpAny_bind fin)
    | exact wpAny_bind (wpAny_pure (wpAny_bind fin))
    | exact wpAny_bind fin
theorem dct_typeIs {a : Addr} {t : Bool} {kvs : List (D × D)} (I : Inv X pins σ H s) (hd : DctOk X.prog X.w X.K ι H a t kvs) : s.TypeIs (.ref a) "dict" := by
  cases t with
  | false =>
    obtain ⟨ks, h1, h2⟩ := hd
    obtain ⟨_, _, vs, _, dd⟩ := dk_of I.hok h1
    exact dd.typeIs
  | true =>
    obtain ⟨xs, h1, _, h2⟩ := hd
    exact (dictOb_at I h1 h2).2.typeIs
theorem idx_ok {value slice : Expr} (hu : X.A.units + 150 < cLine) (I : Inv X pins σ H s) (hr : HR X.prog X.w X.K ι G H) (rx : L2.RelV x v) (ry : L2.RelV y u) (qx : RR X.prog X.w X.K H0 ι H x r) (qy : RR X.prog X.w X.K H1 ι H y q)
    (hs : subscripted slice false v u = operate [v, u] (getItem v u)) (h : PRes X XC W ι H QQ (idxR r q G)) : wpAny (model X.prog X.w) X.A (subscriptTail value slice v u) (EP X pins σ (QV QQ)) X.xe s := by
  have seqc : ∀ {ds : List D} {a : Addr} {xs : List V} {i : Int} {d : D}, x = .ref a → (SqL X.K H a xs ∨ SqT X.K H a xs) → RVs X.K ι H xs ds → y = .int i → L2.atI ds i = some d → PRes X XC W ι H QQ (okV d G) →
      wpAny (model X.prog X.w) X.A (subscriptTail value slice v u) (EP X pins σ (QV QQ)) X.xe s := by
    intro ds a xs i d ex hq hxs ey hi hp
    obtain ⟨z, hz, rz⟩ := rvs_atI hxs hi
    rcases hq with hq | hq
    · exact ix_list value slice pins s σ H x y v u _ I rx ry ⟨a, xs, i, z, ex, ey, hq, hz, ok_val hr hp rz⟩ hs
    · exact ix_tup value slice pins s σ H x y v u _ I rx ry ⟨a, xs, i, z, ex, ey, hq, hz, ok_val hr hp rz⟩ hs
  unfold idxR at h
  split at h
  · cases qx with
    | ref hn =>
      split at h
      · rename_i t kvs hg
        split at h
        · rename_i hk
          split at h
          · rename_i e hf
            cases rx
            have hd := hr.cell _ _ _ hg hn
            exact subTail_dict (dct_typeIs I hd) hs (getDict_ok hu I ry qy hd hk hf fun z rz => ok_val hr h rz)
          · exact h.elim
        · exact h.elim
      · rename_i ds hg
        obtain ⟨xs, h1, h2⟩ := hr.cell _ _ _ hg hn
        split at h
        · split at h
          · rename_i d hi
            exact seqc rfl (.inl (SqL.of h1)) h2 (rv_int qy) hi h
          · exact h.elim
        · exact h.elim
      · exact h.elim
  · split at h
    · rename_i ds he
      obtain ⟨a, xs, e1, h1, h2⟩ := rr_seqOf hr qx he
      split at h
      · rename_i d hi
        exact seqc e1 h1 h2 (rv_int qy) hi h
      · exact h.elim
    · exact h.elim
  · exact h.elim
/-! ### slices -/
theorem getItem_tuple_all {P : Program} {w : World} {A : Around} {E : Value → Shared → Prop} {t sl : Addr} {items : Array Value} {vl vu : Value} {lo hi : Option Int} {Q : Value → Shared → Prop} (ht : IsTup s.heap t items) (hs : s.heap.IsSliceOf sl vl vu .none) (pl : IsPart vl lo) (pu : IsPart vu hi)
    (hw : HT.sIx items.size 0 lo = 0 ∧ HT.sIx items.size items.size hi = items.size) (h : Q (.ref t) s) (hsz : items.size ≤ sizeLine) : wpAny (model P w) A (getItem (.ref t) (.ref sl)) Q E s := by
  obtain ⟨os, hos, hcs, hds⟩ := id hs
  have hTs : s.TypeIs (.ref sl) "slice" := ⟨os, hos, hcs⟩
  unfold getItem
  try with_reducible refine wpAny_holding ?_
  first | refine wpAny_bind (wpAny_pure ?_) | skip
  refine wpAny_bind (wpAny_sequenceKey ht.typeIs (by decide) ?_)
  refine wpAny_bind (wpAny_callSpecial?_slot (name := Str.ofString "__getitem__") ht.typeIs PyProof.Rows.slot_tuple_getitem
    (wpAny_call_entry PyProof.Rows.slot_tuple_getitem ht.typeIs entry_tuple_getitem ?_ (args_tuple_getitem _ _)))
  show wpAny _ _ (Builtin.Tuple.tupleItemsOf (.ref t) >>= _) _ _ s
  refine wpAny_bind (tupleItemsOf_ ht ?_)
  refine wpAny_bind (wpAny_typeOf hTs ?_)
  rw [if_pos (by decide)]
  refine wpAny_bind (HT.sliceApplied_gen hs pl pu ?_)
  show wpAny _ _ (if (((HT.sIx items.size 0 lo : Nat) : Int) == 0 && (1 : Int) == 1 && (HT.sIx items.size items.size hi - HT.sIx items.size 0 lo) == items.size) = true then _ else _) _ _ s
  rw [if_pos (by rw [hw.1, hw.2]; simp)]
  have fin : wpAny (model P w) A.in1 (do rule "tuple.getitem.whole"; ret (.ref t)) (fun f s' => ∃ v, f = Fin.done (Flow.ret v) ∧ wpAny (model P w) A (pure v) Q E s') E s := wpAny_bind (wpAny_rule (wpAny_pure ⟨_, rfl, wpAny_pure h⟩))
  unfold Builtin.Tuple.tupleIsExact
  refine wpAny_bind (wpAny_bind (wpAny_typeOf ht.typeIs (wpAny_pure ?_)))
  rw [if_pos (by decide)]
  exact fin
theorem cutV_all (xs : List V) (lo hi : Option Int) (hw : HT.sIx xs.length 0 lo = 0 ∧ HT.sIx xs.length xs.length hi = xs.length) : cutV xs lo hi = xs := by
  unfold cutV
  rw [hw.1, hw.2]
  simp
theorem rvs_cut {K : PySem.W.Frag} {xs : List V} {ds : List D} (h : RVs K ι H xs ds) (lo hi : Option Int) : RVs K ι H (cutV xs lo hi) (cutD ds lo hi) := by
  unfold cutV cutD
  rw [h.length]
  exact (h.drop _).take _
/-- a slice by values -/
theorem slc_ok {lo hi : Option Int} {vl vu : Value} {sl : Addr} (I : Inv X pins σ H s) (hr : HR X.prog X.w X.K ι G H) (rx : L2.RelV x v) (qx : RR X.prog X.w X.K H0 ι H x r) (hs : s.heap.IsSliceOf sl vl vu .none) (pl : IsPart vl lo) (pu : IsPart vu hi)
    (h : PRes X XC W ι H QQ (cutR r lo hi G)) :
    ∃ T id, typeLookup (.type T) "__getitem__" = pure (some (.builtin id)) ∧ s.TypeIs v T ∧ wpAny (model X.prog X.w) X.A (getItem v (.ref sl)) (EP X pins σ (QV QQ)) X.xe s := by
  unfold cutR at h
  split at h
  · obtain ⟨a, xs, rfl, hx, hxs⟩ := rv_tup qx
    by_cases hw : HT.sIx xs.length 0 lo = 0 ∧ HT.sIx xs.length xs.length hi = xs.length
    · cases rx
      obtain ⟨its, r', ht, hz⟩ := I.tuple hx
      have hlen : its.toArray.size = xs.length := by rw [List.size_toArray]; exact r'.length.symm
      refine ⟨"tuple", _, PyProof.Rows.slot_tuple_getitem.lookup, ht.typeIs, getItem_tuple_all ht hs pl pu (by rw [hlen]; exact hw) ?_ (by rw [hlen]; exact hz)⟩
      have e := rvs_cut hxs lo hi
      rw [cutV_all xs lo hi hw] at e
      exact ⟨.ref a, H, I, rfl, ok_val hr h (.tup hx e)⟩
    · exact sl_tup pins s σ H _ v vl vu lo hi sl _ I rx hs pl pu ⟨a, xs, rfl, hx, hw, fun p hp => ok_tup hr h (rvs_cut hxs lo hi) hp⟩
  · split at h
    · rename_i e
      obtain ⟨a, xs, rfl, hx, hxs⟩ := rr_lstOf hr qx e
      exact sl_list pins s σ H _ v vl vu lo hi sl _ I rx hs pl pu ⟨a, xs, rfl, hx, fun p hp => ok_lst hr h (rvs_cut hxs lo hi) hp⟩
    · exact h.elim
/-! ### len, isinstance -/
theorem len_ok (I : Inv X pins σ H s) (hr : HR X.prog X.w X.K ι G H) (rx : L2.RelV x v) (qx : RR X.prog X.w X.K H0 ι H x r) (h : PRes X XC W ι H QQ (lenR r G)) :
    wpAny (model X.prog X.w) X.A (call (.builtin "len") [v]) (EP X pins σ (QV QQ)) X.xe s := by
  have seqc : ∀ {ds : List D} {a : Addr} {xs : List V}, x = .ref a → (SqL X.K H a xs ∨ SqT X.K H a xs) → RVs X.K ι H xs ds → PRes X XC W ι H QQ (okV (.int ds.length) G) →
      wpAny (model X.prog X.w) X.A (call (.builtin "len") [v]) (EP X pins σ (QV QQ)) X.xe s := fun {ds a xs} ex hq hxs hp =>
    call_len_seq pins s σ H [x] [v] _ I (.cons rx .nil) ⟨a, xs, by rw [ex], hq, by rw [hxs.length]; exact ok_val hr hp (.int _)⟩
  unfold lenR at h
  split at h
  · split at h
    · rename_i hl
      cases rv_str qx
      exact call_len_str pins s σ H _ [v] _ I (.cons rx .nil) ⟨_, rfl, Nat.le_trans hl lim_line, ok_val hr h (.int _)⟩
    · exact h.elim
  · cases qx with
    | ref hn =>
      split at h
      · rename_i hg
        obtain ⟨xs, h1, h2⟩ := hr.cell _ _ _ hg hn
        exact seqc rfl (.inl (SqL.of h1)) h2 h
      · exact h.elim
  · split at h
    · rename_i e
      obtain ⟨a, xs, e1, h1, h2⟩ := rr_seqOf hr qx e
      exact seqc e1 h1 h2 h
    · exact h.elim
def Ty.nm : Ty → String
  | .int => "int" | .bool => "bool" | .str => "str" | .tuple => "tuple" | .list => "list"
theorem isi_ty {K : PySem.W.Frag} {b : Bool} {t : Ty} (hr : HR X.prog X.w X.K ι G H) (qx : RR X.prog X.w X.K H0 ι H x r) (e : isiR r t G = some b) : ∃ tv : String, TyX X.K H x (.type tv) ∧ PySem.W.kitOne X.K (.type tv) (.type t.nm) = some b := by
  have k : ∀ (a b : String) (c : Bool), kitB a b = some c → PySem.W.kitOne X.K (.type a) (.type b) = some c := fun a b c h => kit_ty h
  have lst : ∀ {a : Addr} {xs : List V}, SqL X.K H a xs → TyX X.K H (.ref a) (.type "list") := by
    intro a xs h
    rcases h with (h | ⟨o, h⟩) | ⟨o, its, n, h, hc, _⟩
    · exact .base (.lst h)
    · exact .base (.frz h)
    · exact .kList h hc
  have tup : ∀ {a : Addr} {xs : List V}, SqT X.K H a xs → TyX X.K H (.ref a) (.type "tuple") := by
    intro a xs h
    rcases h with (h | ⟨o, h⟩) | ⟨o, its, n, h, hc, _⟩
    · exact .base (.tup h)
    · exact .fTuple h
    · exact .kTuple h hc
  unfold isiR at e
  split at e
  · cases e; cases qx; exact ⟨_, .base .non, by cases t <;> exact k _ _ _ (by decide +kernel)⟩
  · cases e; cases qx; exact ⟨_, .base (.bl _), by cases t <;> exact k _ _ _ (by decide +kernel)⟩
  · cases e; cases qx; exact ⟨_, .base (.int _), by cases t <;> exact k _ _ _ (by decide +kernel)⟩
  · cases e; cases qx; exact ⟨_, .base (.str _), by cases t <;> exact k _ _ _ (by decide +kernel)⟩
  · cases e
    obtain ⟨a, xs, rfl, h1, _⟩ := rv_tup qx
    exact ⟨_, tup h1, by cases t <;> exact k _ _ _ (by decide +kernel)⟩
  · cases qx with
    | ref hn =>
      split at e
      · rename_i hg
        cases e
        obtain ⟨xs, h1, h2⟩ := hr.cell _ _ _ hg hn
        exact ⟨_, lst (SqL.of h1), by cases t <;> exact k _ _ _ (by decide +kernel)⟩
      · cases e
  · cases e
    cases qx with
    | frl h1 h2 => exact ⟨_, lst h1.sql, by cases t <;> exact k _ _ _ (by decide +kernel)⟩
  · cases e
    obtain ⟨a, xs, rfl, h1, _⟩ := qx
    exact ⟨_, lst (SqL.of h1), by cases t <;> exact k _ _ _ (by decide +kernel)⟩
  · cases e
theorem isi_ok {b : Bool} {t : Ty} (I : Inv X pins σ H s) (hr : HR X.prog X.w X.K ι G H) (rx : L2.RelV x v) (qx : RR X.prog X.w X.K H0 ι H x r) (e : isiR r t G = some b) {Q : VK} (h : Q (.bl b) H) :
    wpAny (model X.prog X.w) X.A (call (.builtin "isinstance") [v, .type t.nm]) (EP X pins σ Q) X.xe s := by
  obtain ⟨tv, h1, h2⟩ := isi_ty (K := X.K) hr qx e
  exact call_isi pins s σ H [x, .ty t.nm] _ _ I (.cons rx (.cons rfl .nil)) ⟨x, .ty t.nm, _, _, b, rfl, .ty _, h1, h2, h⟩
end
end LK

set_option Elab.async false
set_option linter.all false
set_option autoImplicit false
set_option maxRecDepth 100000
set_option maxHeartbeats 4000000
/-! LkBlt: built-ins over sequences; stores; methods of lists. -/
namespace LK
open PySem PySem.Spec PyProof.Rows L2

mutual
theorem toPy_inj : ∀ (a : D) (k : Nat) (b : D) (j : Nat), D.dok k a = true → D.dok j b = true → a.toPy = b.toPy → a = b
  | .non, _, b, j, _, hb, e => by cases b <;> simp [D.toPy] at e ⊢ <;> (cases j <;> simp [D.dok] at hb)
  | .bl _, _, b, j, _, hb, e => by cases b <;> simp [D.toPy] at e ⊢ <;> first | exact e | (cases j <;> simp [D.dok] at hb)
  | .int _, _, b, j, _, hb, e => by cases b <;> simp [D.toPy] at e ⊢ <;> first | exact e | (cases j <;> simp [D.dok] at hb)
  | .str _, _, b, j, _, hb, e => by cases b <;> simp [D.toPy] at e ⊢ <;> first | exact e | (cases j <;> simp [D.dok] at hb)
  | .ref _, k, _, _, h, _, _ => by cases k <;> simp [D.dok] at h
  | .frl _, k, _, _, h, _, _ => by cases k <;> simp [D.dok] at h
  | .tup xs, k, b, j, ha, hb, e => by
    cases k with
    | zero => simp [D.dok] at ha
    | succ k =>
      cases b with
      | tup ys =>
        cases j with
        | zero => simp [D.dok] at hb
        | succ j =>
          rw [D.dok] at ha hb
          rw [D.toPy, D.toPy] at e
          injection e with e
          rw [toPyL_inj xs k ys j ha hb e]
      | _ => simp [D.toPy] at e
theorem toPyL_inj : ∀ (a : List D) (k : Nat) (b : List D) (j : Nat), a.all (D.dok k) = true → b.all (D.dok j) = true → D.toPyL a = D.toPyL b → a = b
  | [], _, [], _, _, _, _ => rfl
  | [], _, _ :: _, _, _, _, e => by simp [D.toPyL] at e
  | _ :: _, _, [], _, _, _, e => by simp [D.toPyL] at e
  | x :: xs, k, y :: ys, j, ha, hb, e => by
    rw [List.all_cons, Bool.and_eq_true] at ha hb
    rw [D.toPyL, D.toPyL] at e
    injection e with e1 e2
    rw [toPy_inj x k y j ha.1 hb.1 e1, toPyL_inj xs k ys j ha.2 hb.2 e2]
end
theorem ints_of : ∀ {ds : List D} {is : List Int}, intsOf ds = some is → ds = is.map .int
  | [], _, h => by simp [intsOf] at h; subst h; rfl
  | .int i :: r, _, h => by
    simp only [intsOf, Option.map_eq_some_iff] at h
    obtain ⟨js, h1, h2⟩ := h
    subst h2
    rw [ints_of h1]; rfl
  | .non :: _, _, h => by simp [intsOf] at h
  | .bl _ :: _, _, h => by simp [intsOf] at h
  | .str _ :: _, _, h => by simp [intsOf] at h
  | .tup _ :: _, _, h => by simp [intsOf] at h
  | .ref _ :: _, _, h => by simp [intsOf] at h
  | .frl _ :: _, _, h => by simp [intsOf] at h
theorem bls_of : ∀ {ds : List D} {is : List Bool}, blsOf ds = some is → ds = is.map .bl
  | [], _, h => by simp [blsOf] at h; subst h; rfl
  | .bl i :: r, _, h => by
    simp only [blsOf, Option.map_eq_some_iff] at h
    obtain ⟨js, h1, h2⟩ := h
    subst h2
    rw [bls_of h1]; rfl
  | .non :: _, _, h => by simp [blsOf] at h
  | .int _ :: _, _, h => by simp [blsOf] at h
  | .str _ :: _, _, h => by simp [blsOf] at h
  | .tup _ :: _, _, h => by simp [blsOf] at h
  | .ref _ :: _, _, h => by simp [blsOf] at h
  | .frl _ :: _, _, h => by simp [blsOf] at h
theorem rvs_ints {K : PySem.W.Frag} {ι : List Addr} {H : Hp} : ∀ {is : List Int} {xs : List V}, RVs K ι H xs (is.map .int) → xs = is.map V.int
  | [], _, h => by cases h; rfl
  | i :: is, _, h => by
    cases h with
    | cons h hs => cases h; rw [rvs_ints hs]; rfl
theorem rvs_bls {K : PySem.W.Frag} {ι : List Addr} {H : Hp} : ∀ {is : List Bool} {xs : List V}, RVs K ι H xs (is.map .bl) → xs = is.map V.bl
  | [], _, h => by cases h; rfl
  | i :: is, _, h => by
    cases h with
    | cons h hs => cases h; rw [rvs_bls hs]; rfl
theorem all_dok {ds : List D} (h : alikeAllD ds = true) : ds.all (D.dok 60) = true := by
  rw [List.all_eq_true]
  intro d hd
  simp only [alikeAllD, List.all_eq_true] at h
  exact (alike_of (h d hd d hd)).1
theorem minD_toPy : ∀ (ds : List D) (d : D), (minD d ds).toPy = W.minD d.toPy (D.toPyL ds)
  | [], d => rfl
  | x :: xs, d => by
    rw [D.toPyL, minD]
    show _ = List.foldl _ (if W.dataLt x.toPy d.toPy = true then x.toPy else d.toPy) (D.toPyL xs)
    rw [minD_toPy xs]
    show List.foldl _ _ _ = _
    unfold ltD
    split <;> rfl
theorem maxD_toPy : ∀ (ds : List D) (d : D), (maxD d ds).toPy = W.maxD d.toPy (D.toPyL ds)
  | [], d => rfl
  | x :: xs, d => by
    rw [D.toPyL, maxD]
    show _ = List.foldl _ (if W.dataLt d.toPy x.toPy = true then x.toPy else d.toPy) (D.toPyL xs)
    rw [maxD_toPy xs]
    show List.foldl _ _ _ = _
    unfold ltD
    split <;> rfl
theorem minD_mem : ∀ (ds : List D) (d : D), minD d ds ∈ d :: ds
  | [], d => by simp [minD]
  | x :: xs, d => by
    rw [minD]
    have := minD_mem xs (if ltD x d = true then x else d)
    split at this <;> (simp only [List.mem_cons] at this ⊢; rcases this with h | h <;> simp_all)
theorem maxD_mem : ∀ (ds : List D) (d : D), maxD d ds ∈ d :: ds
  | [], d => by simp [maxD]
  | x :: xs, d => by
    rw [maxD]
    have := maxD_mem xs (if ltD d x = true then x else d)
    split at this <;> (simp only [List.mem_cons] at this ⊢; rcases this with h | h <;> simp_all)
theorem alikeAll_of {ds : List D} (h : alikeAllD ds = true) : W.AlikeAll (D.toPyL ds) := by
  simp only [alikeAllD, List.all_eq_true] at h
  rw [toPyL_map]
  refine ⟨fun x hx y hy => ?_, fun x hx => ?_⟩
  · obtain ⟨a, ha, rfl⟩ := List.mem_map.mp hx
    obtain ⟨b, hb, rfl⟩ := List.mem_map.mp hy
    exact (alike_of (h a ha b hb)).2.2.1
  · obtain ⟨a, ha, rfl⟩ := List.mem_map.mp hx
    exact (alike_of (h a ha a ha)).2.2.2
theorem leD_eq : leD = W.dataLe false D.toPy := by
  funext a b
  rfl

section
variable {X : Cx} {pins : List (Addr × Obj)} {σ : L2.St} {s : Shared} {ι : List Addr} {G : Hpp} {H H0 H1 : Hp} {x y : V} {v u : Value} {r q : R}
  {XC : Str → D → List Addr → Hp → Value → Option Addr → Prop} {W : Value → Option Addr → Hp → Prop} {QQ : R → List Addr → Hpp → Hp → V → Prop}
/-- a source of items: collect gives them -/
def Coll (X : Cx) (s : Shared) (v : Value) (xs : List V) : Prop := ∀ (R : List Value → Shared → Prop) (E : Value → Shared → Prop),
  (∀ h' tk acc, (∀ b o, s.heap.get? b = some o → h'.get? b = some o) → Vals xs acc → R acc { s with heap := h', toks := tk }) → wpAny (model X.prog X.w) X.A.in1 (collect v) R E s
theorem coll_seq {a : Addr} {xs : List V} (I : Inv X pins σ H s) (h : SqL X.K H a xs ∨ SqT X.K H a xs) : Coll X s (.ref a) xs := by
  intro R E hR
  rcases h with h | h
  · obtain ⟨its, r, ⟨o, n, ho, hc, _, hd⟩, hz⟩ := I.list h
    have hl := r.length
    exact wpAny_collect_seq a (.inl rfl) ho hc hd (fun h' k => hR h' s.toks _ k (by simpa using r)) (by rw [List.size_toArray]; omega)
  · obtain ⟨its, r, ⟨o, ho, hc, n, hd⟩, hz⟩ := I.tuple h
    have hl := r.length
    exact wpAny_collect_seq a (.inr rfl) ho hc hd (fun h' k => hR h' s.toks _ k (by simpa using r)) (by rw [List.size_toArray]; omega)
theorem paired_at {α β : Type} {R : α → β → Prop} : ∀ {l : List α} {m : List β}, Paired R l m → ∀ {i : Nat} {a : α}, l[i]? = some a → ∃ b, m[i]? = some b ∧ R a b
  | _, _, .nil, _, _, e => by simp at e
  | _, _, .cons h hs, i, a, e => by
    cases i with
    | zero => simp at e; subst e; exact ⟨_, rfl, h⟩
    | succ i => simp at e; simpa using paired_at hs e
theorem paired_at2 {α β : Type} {R : α → β → Prop} : ∀ {l : List α} {m : List β}, Paired R l m → ∀ {i : Nat} {b : β}, m[i]? = some b → ∃ a, l[i]? = some a ∧ R a b
  | _, _, .nil, _, _, e => by simp at e
  | _, _, .cons h hs, i, a, e => by
    cases i with
    | zero => simp at e; subst e; exact ⟨_, rfl, h⟩
    | succ i => simp at e; simpa using paired_at2 hs e
theorem vals_by {xs : List V} {acc : List Value} (hl : acc.length = xs.length) (h : ∀ (j : Nat) (v : Value), acc[j]? = some v → ∃ x, xs[j]? = some x ∧ L2.RelV x v) : Vals xs acc := by
  induction xs generalizing acc with
  | nil =>
    cases acc with
    | nil => exact .nil
    | cons a r => simp at hl
  | cons x xs ih =>
    cases acc with
    | nil => simp at hl
    | cons a r =>
      obtain ⟨x', e, q⟩ := h 0 a rfl
      simp at e; subst e
      refine .cons q (ih (by simpa using hl) fun j v e => ?_)
      have := h (j + 1) v (by simpa using e)
      simpa using this
theorem kV_rel {k : Key} {v : Value} (h : keyIs k v = true) : L2.RelV (kV k) v := by
  rcases keyIs_shape h with ⟨i, t, rfl, rfl⟩ | ⟨z, t, rfl, rfl⟩
  · exact ⟨t, rfl⟩
  · exact ⟨t, rfl⟩
/-- a dict is a source of its keys -/
theorem coll_dct {a : Addr} {t : Bool} {kvs : List (D × D)} (I : Inv X pins σ H s) (hc : X.calm = true) (h : DctOk X.prog X.w X.K ι H a t kvs) : ∃ xs, RVs X.K ι H xs (kvs.map (·.1)) ∧ Coll X s (.ref a) xs ∧
    ∀ (Q : Value → Shared → Prop) (E : Value → Shared → Prop), (∀ h' tk acc' c', (∀ b o, s.heap.get? b = some o → h'.get? b = some o) → h'.get? s.heap.objs.size = some { cls := .type "list", dict := none, data := .seq acc' c', slots := #[] } → Vals xs acc'.toList → Q (.ref s.heap.objs.size) { s with heap := h', toks := tk }) →
      wpAny (model X.prog X.w) X.A (call (.type "list") [.ref a]) Q E s := by
  cases t with
  | false =>
    obtain ⟨ks, h1, h2⟩ := h
    obtain ⟨z, lo, vs, rel, dd⟩ := dk_of I.hok h1
    obtain ⟨ep, hat⟩ := dd.dictAt
    have hks : ∀ {l : List (Key × V)} {m : List (D × D)}, Paired (fun (q : Key × V) (p : D × D) => RV X.K ι H (kV q.1) p.1 ∧ RV X.K ι H q.2 p.2) l m → RVs X.K ι H (l.map fun q => kV q.1) (m.map (·.1)) := by
      intro l m q
      induction q with
      | nil => exact .nil
      | cons h hs ih => exact .cons h.1 ih
    have hn : vs.length ≤ sizeLine := by rw [← Paired.length rel]; exact z
    have hv : ∀ (acc : List Value), acc.length = vs.length → (∀ (j : Nat) (v : Value), acc[j]? = some v → ∃ k x, vs[j]? = some (k, x) ∧ (mixKind X.prog X.w).is k v = true) → Vals (ks.map fun q => kV q.1) acc := by
      intro acc hl hj
      refine vals_by (by rw [hl, List.length_map, Paired.length rel]) fun j v e => ?_
      obtain ⟨k, x, e1, e2⟩ := hj j v e
      obtain ⟨q, eq1, eq2⟩ := paired_at2 rel e1
      refine ⟨kV q.1, by rw [List.getElem?_map, eq1]; rfl, ?_⟩
      rw [eq2.1]
      exact kV_rel e2
    refine ⟨_, hks h2, fun R E hR => ?_, fun Q E hQ => ?_⟩
    · refine PySem.W.kdu_collect (A := X.A.in1) (PySem.W.kdl_dict (knd := mixKind X.prog X.w) (kvs := vs) (ep := ep) lo) (I.ok.hd hc) hat hn fun h' tk acc hk hacc => hR h' tk _ hk (hv _ (by rw [Array.length_toList, hacc.1]) fun j v e => hacc.2 j v (by rw [← Array.getElem?_toList]; exact e))
    · refine PySem.W.kdl_call (A := X.A) (PySem.W.kdl_dict (knd := mixKind X.prog X.w) (kvs := vs) (ep := ep) lo) (I.ok.hd hc) hat hn fun h' tk acc c' hk he hacc => hQ h' tk acc c' hk he (hv _ (by rw [Array.length_toList, hacc.1]) fun j v e => hacc.2 j v (by rw [← Array.getElem?_toList]; exact e))
  | true =>
    obtain ⟨xs, h1, hlim, h2⟩ := h
    obtain ⟨lo, o, es, ep, ho, hx, hdt, he, _, hnd⟩ := dictOb_at I h1 h2
    have hks : ∀ {l : List (NestedKey × Addr × Value)} {m : List (D × D)}, Paired (TP2 X ι H) l m → RVs X.K ι H (l.map fun q => V.ref q.2.1) (m.map (·.1)) := by
      intro l m q
      induction q with
      | nil => exact .nil
      | cons h hs ih => exact .cons h.2.2.2.1 ih
    have hs : es.size = xs.length := size_of_entries he
    have hn : es.size ≤ sizeLine := by rw [hs, Paired.length h2]; exact Nat.le_trans hlim lim_line
    have raw : s.heap.DictRaw a es ep := ⟨o, ho, hx, hdt⟩
    have hv : ∀ (acc : List Value), acc.length = es.size → (∀ (j : Nat) (v : Value), acc[j]? = some v → ∃ hi : j < es.size, v = es[j].key) → Vals (xs.map fun q => V.ref q.2.1) acc := by
      intro acc hl hj
      refine vals_by (by rw [hl, List.length_map, hs]) fun j v e => ?_
      obtain ⟨hi, e2⟩ := hj j v e
      have e3 := entry_at he j
      rw [Array.getElem?_eq_getElem hi] at e3
      cases e4 : xs[j]? with
      | none => rw [e4] at e3; cases e3
      | some q =>
        rw [e4] at e3
        have e5 : es[j] = entryOfKey (nestedKind X.prog X.w) q := Option.some.inj e3
        refine ⟨.ref q.2.1, by rw [List.getElem?_map, e4]; rfl, ?_⟩
        rw [e2, e5]
        rfl
    refine ⟨_, hks h2, fun R E hR => ?_, fun Q E hQ => ?_⟩
    · refine PySem.W.kdu_collect (A := X.A.in1) (PySem.KdlSrc.rawDict (ep := ep) lo) (I.ok.hd hc) raw hn fun h' tk acc hk hacc => hR h' tk _ hk (hv _ (by rw [Array.length_toList, hacc.1]) fun j v e => hacc.2 j v (by rw [← Array.getElem?_toList]; exact e))
    · refine PySem.W.kdl_call (A := X.A) (PySem.KdlSrc.rawDict (ep := ep) lo) (I.ok.hd hc) raw hn fun h' tk acc c' hk he hacc => hQ h' tk acc c' hk he (hv _ (by rw [Array.length_toList, hacc.1]) fun j v e => hacc.2 j v (by rw [← Array.getElem?_toList]; exact e))
theorem each_vals {K : PySem.W.Frag} : ∀ {acc : List Value} {bs : List (V × D)}, PySem.W.EachIs (fun v (p : V × D) => L2.RelV p.1 v ∧ RV K ι H p.1 p.2) acc bs → Vals (bs.map (·.1)) acc ∧ RVs K ι H (bs.map (·.1)) (bs.map (·.2))
  | _, _, .nil => ⟨.nil, .nil⟩
  | _, _, .cons h hs => ⟨.cons h.1 (each_vals hs).1, .cons h.2 (each_vals hs).2⟩
theorem each_zip {K : PySem.W.Frag} : ∀ {acc : List Value} {xs : List V} {ds : List D}, Vals xs acc → RVs K ι H xs ds → PySem.W.EachIs (fun v (p : V × D) => L2.RelV p.1 v ∧ RV K ι H p.1 p.2) acc (xs.zip ds)
  | _, _, _, .nil, .nil => .nil
  | _, _, _, .cons h hs, .cons q qs => .cons ⟨h, q⟩ (each_zip hs qs)
theorem zip_snd {K : PySem.W.Frag} : ∀ {xs : List V} {ds : List D}, RVs K ι H xs ds → (xs.zip ds).map (·.2) = ds
  | _, _, .nil => rfl
  | _, _, .cons h hs => by simp [zip_snd hs]
theorem sortable_of {ds : List D} (h : sortOk ds = true) : PySem.W.Sortable (ds.map D.toPy) ∧ PySem.W.AllAlike (ds.map D.toPy) := by
  simp only [sortOk, Bool.and_eq_true] at h
  obtain ⟨h1, h2⟩ := h
  have h3 : ∀ a ∈ ds, ∀ b ∈ ds, alikeD a b = true := by simpa only [alikeAllD, List.all_eq_true] using h1
  refine ⟨?_, fun x hx y hy => ?_⟩
  · cases ds with
    | nil => exact .inl fun d hd => by simp at hd
    | cons d r =>
      by_cases ht : d.isTup = true
      · refine .inl fun e he => ?_
        obtain ⟨a, ha, rfl⟩ := List.mem_map.mp he
        have h4 := alike_of (h3 d (by simp) a ha)
        have h5 := List.all_eq_true.mp h2 a ha
        cases d <;> simp [D.isTup] at ht
        cases a <;> simp [D.toPy, PySem.W.alike] at h4
        rename_i xs
        cases xs with
        | nil => simp at h5
        | cons x xs => exact ⟨x.toPy, D.toPyL xs, by rw [D.toPy, D.toPyL]⟩
      · refine .inr fun e he => ?_
        obtain ⟨a, ha, rfl⟩ := List.mem_map.mp he
        have h4 := alike_of (h3 d (by simp) a ha)
        have h6 := alike_of (h3 a ha a ha)
        refine ⟨h6.2.2.2, fun xs e => ?_⟩
        cases d <;> simp [D.isTup] at ht <;> cases a <;> simp [D.toPy, PySem.W.alike] at h4 e
  · obtain ⟨a, ha, rfl⟩ := List.mem_map.mp hx
    obtain ⟨b, hb, rfl⟩ := List.mem_map.mp hy
    exact (alike_of (h3 a ha b hb)).2.2.1
theorem rvs_reads (I : Inv X pins σ H s) {h' : Heap} (k : ∀ b o, s.heap.get? b = some o → h'.get? b = some o) : ∀ {acc : List Value} {xs : List V} {ds : List D}, ds.all (D.dok 60) = true → Vals xs acc → RVs X.K ι H xs ds →
    PySem.W.EachIs (fun v (p : V × D) => ∃ as, Reads h' v p.2.toPy as) acc (xs.zip ds)
  | _, _, _, _, .nil, .nil => .nil
  | _, _, d :: ds, hd, .cons h hs, .cons q qs => by
    rw [List.all_cons, Bool.and_eq_true] at hd
    refine .cons ?_ (rvs_reads I k hd.2 hs qs)
    obtain ⟨as, r⟩ := Dp.reads I _ _ _ (rv_dp _ 60 hd.1 q) h
    exact ⟨as, PyProof.Rows.Reads.keeps k r⟩
theorem sorted_ok {a : Addr} {xs : List V} {ds : List D} (hu : X.A.units + 150 < cLine) (I : Inv X pins σ H s) (C : Coll X s (.ref a) xs) (hz : ds.length ≤ sizeLine) (hxs : RVs X.K ι H xs ds) (hk : sortOk ds = true) {Q : VK}
    (h : ∀ p ys, H p = none → RVs X.K ι H ys (ds.mergeSort leD) → Q (.ref p) (upd H p (.lst ys))) : wpAny (model X.prog X.w) X.A (call (.builtin "sorted") [.ref a]) (EP X pins σ Q) X.xe s := by
  refine Calls.call_function_entry PyProof.Rows.kind_sorted PyProof.Rows.plain_sorted PyProof.Rows.entry_sorted (PyProof.Rows.args_sorted1 _) ?_
  unfold Builtin.«sorted»
  refine wpAny_bind (m := checkCount "sorted" 1 1 _) (wpAny_pure ?_)
  refine wpAny_bind (C _ _ fun h' tk acc hkp hv => ?_)
  have hl : acc.length = ds.length := by rw [← hv.length, hxs.length]
  have I1 : Inv X pins σ H { s with heap := h', toks := tk } := I.kept hkp
  refine wpAny_bind (wpAny_newList ?_ (by omega))
  have hoL : (h'.push (seqObj "list" acc.toArray 0)).get? h'.objs.size = some (seqObj "list" acc.toArray 0) := Heap.get?_push_size _ rfl
  show wpAny _ _ _ _ _ { s with heap := h'.push (seqObj "list" acc.toArray 0), toks := tk }
  obtain ⟨hk1, hk2⟩ := sortable_of hk
  have hd := all_dok (show alikeAllD ds = true by simp only [sortOk, Bool.and_eq_true] at hk; exact hk.1)
  have k3 : ∀ b o, s.heap.get? b = some o → (PySem.W.sortingHeap (h'.push (seqObj "list" acc.toArray 0)) h'.objs.size acc).get? b = some o := fun b o e => by
    have e1 := hkp b o e
    exact PySem.W.sortingHeap_old (Nat.ne_of_lt (Heap.lt_size e1)) (Heap.get?_push_of_some _ e1)
  have er := rvs_reads I k3 hd hv hxs
  have e0 := each_zip hv hxs
  have hmap : (xs.zip ds).map (fun p : V × D => p.2.toPy) = ds.map D.toPy := by
    have := congrArg (List.map D.toPy) (zip_snd hxs)
    rw [List.map_map] at this
    exact this
  have hS : PySem.W.SortsAt X.prog X.w X.A.in1.in1 { s with heap := PySem.W.sortingHeap (h'.push (seqObj "list" acc.toArray 0)) h'.objs.size acc, toks := tk } (PySem.W.dataKind (PySem.W.sortingHeap (h'.push (seqObj "list" acc.toArray 0)) h'.objs.size acc) ((xs.zip ds).map fun p : V × D => p.2.toPy)) acc :=
    PySem.W.SortsAt.data (s := { s with heap := PySem.W.sortingHeap (h'.push (seqObj "list" acc.toArray 0)) h'.objs.size acc, toks := tk }) (PySem.W.each_map (R := fun v d => ∃ as, Reads (PySem.W.sortingHeap (h'.push (seqObj "list" acc.toArray 0)) h'.objs.size acc) v d as) (fun p : V × D => p.2.toPy) er) (by rw [hmap]; exact hk2) (by rw [hmap]; exact hk1) (fun d hm => by
      rw [hmap] at hm
      obtain ⟨b, hb, rfl⟩ := List.mem_map.mp hm
      have := toPy_depth _ _ (List.all_eq_true.mp hd b hb)
      show X.A.units + 1 + 1 + _ < _
      omega)
  refine wpAny_bind (wpAny_holding (wpAny_call_entry PyProof.Rows.slot_list_sort ⟨_, hoL, rfl⟩ PyProof.Rows.entry_list_sort
    (PySem.W.list_sort_vals (s := { s with heap := h'.push (seqObj "list" acc.toArray 0), toks := tk }) hoL hS (by omega) ⟨_, rfl, ?_⟩) (PyProof.Rows.args_list_sort _)))
  have eo := PySem.W.sortVals_data (R := fun v (p : V × D) => L2.RelV p.1 v ∧ RV X.K ι H p.1 p.2) false e0 er (by rw [hmap]; exact hk2)
  obtain ⟨ev, ed⟩ := each_vals eo
  have hs2 : ((xs.zip ds).mergeSort (PySem.W.dataLe false fun p : V × D => p.2.toPy)).map (·.2) = ds.mergeSort leD := by
    have := PySem.W.sort_maps (r := PySem.W.dataLe false fun p : V × D => p.2.toPy) (s := leD) (fun p : V × D => p.2) (l := xs.zip ds) (fun a _ b _ => rfl)
    rw [zip_snd hxs] at this
    first | exact this | exact this.symm
  rw [hs2] at ed
  have hp := I1.hok.fresh (Nat.le_refl h'.objs.size)
  obtain ⟨e', he'⟩ := PyProof.Rows.sortedHeap_at (vs := acc) (out := (PySem.W.sortVals (PySem.W.dataKind (PySem.W.sortingHeap (h'.push (seqObj "list" acc.toArray 0)) h'.objs.size acc) ((xs.zip ds).map fun p : V × D => p.2.toPy)) false acc acc).toArray) hoL
  refine wpAny_pure ⟨_, rfl, .ref h'.objs.size, upd H h'.objs.size (.lst _), I1.laid (t' := tk) (fun b u e => ?_) (Nat.le_refl _)
    (show ObjOk X.prog X.w _ _ _ (.lst _) from ⟨?_, _, e', ev, he'⟩), rfl, h _ _ hp ed⟩
  · have hb : b < h'.objs.size := Heap.lt_size e
    rw [PyProof.Rows.sortedHeap_old (Nat.ne_of_lt hb) (by rw [size_push']; exact Nat.lt_succ_of_lt hb)]
    exact Heap.get?_push_of_some _ e
  · rw [ed.length, List.length_mergeSort]; exact hz
theorem reads_all (I : Inv X pins σ H s) {ds : List D} {xs : List V} {its : List Value} (hd : ds.all (D.dok 60) = true) (h : RVs X.K ι H xs ds) (hv : Vals xs its) : ∃ as, ReadsAll s.heap its (D.toPyL ds) as :=
  Dp.readsAll I _ _ _ (rvs_dp _ 60 hd h) hv
theorem best_ok (I : Inv X pins σ H s) {ds : List D} {xs : List V} {its : List Value} {d : D} (hd : ds.all (D.dok 60) = true) (hm : d ∈ ds) (h : RVs X.K ι H xs ds) (hv : Vals xs its) {i : Nat} {v : Value} {h' : Heap} {bs : List Addr}
    (hi : its[i]? = some v) (k : ∀ b o, s.heap.get? b = some o → h'.get? b = some o) (r : Reads h' v d.toPy bs) : ∃ x, L2.RelV x v ∧ RV X.K ι H x d := by
  have hl := hv.length
  have hi1 : i < its.length := (List.getElem?_eq_some_iff.mp hi).1
  obtain ⟨x, hx⟩ : ∃ x, xs[i]? = some x := ⟨xs[i]'(by omega), List.getElem?_eq_getElem (by omega)⟩
  obtain ⟨u, hu, rx⟩ := hv.get hx
  rw [hi] at hu; cases hu
  obtain ⟨e, he, re⟩ := h.getV hx
  have hde := List.all_eq_true.mp hd e (List.mem_of_getElem? he)
  have hdd := List.all_eq_true.mp hd d hm
  obtain ⟨as, r1⟩ := Dp.reads I _ _ _ (rv_dp _ 60 hde re) rx
  have r2 := PyProof.Rows.Reads.keeps k r1
  have heq := SeqAt.plain_unique _ _ _ _ _ (toPy_plain _ _ hde) r2 r
  have := toPy_inj e 60 d 60 hde hdd heq
  subst this
  exact ⟨x, rx, re⟩
def Sb.val : Sb → Value
  | .tuple => .type "tuple" | .list => .type "list" | .sorted => .builtin "sorted" | .sortedR => .builtin "sorted" | .sum => .builtin "sum" | .all => .builtin "all" | .any => .builtin "any" | .min => .builtin "min" | .max => .builtin "max" | .set => .type "set" | .dict => .type "dict"
theorem seqR_ok {b : Sb} (hu : X.A.units + 150 < cLine) (hc : X.calm = true) (I : Inv X pins σ H s) (hr : HR X.prog X.w X.K ι G H) (rx : L2.RelV x v) (qx : RR X.prog X.w X.K H0 ι H x r) (h : PRes X XC W ι H QQ (seqR b r G)) :
    wpAny (model X.prog X.w) X.A (call b.val [v]) (EP X pins σ (QV QQ)) X.xe s := by
  have seqc : ∀ {ds : List D} {a : Addr} {xs : List V}, x = .ref a → (SqL X.K H a xs ∨ SqT X.K H a xs) → RVs X.K ι H xs ds → PRes X XC W ι H QQ (seqC b ds G) →
      wpAny (model X.prog X.w) X.A (call b.val [v]) (EP X pins σ (QV QQ)) X.xe s := by
    intro ds a xs ex hq hxs hp
    subst ex
    cases rx
    have hz : ds.length ≤ sizeLine := by
      rw [← hxs.length]
      rcases hq with hq | hq
      · exact (I.list hq).choose_spec.2.2
      · exact (I.tuple hq).choose_spec.2.2
    unfold seqC at hp
    split at hp
    · exact call_list_of pins s σ H [.ref a] _ _ I (.cons rfl .nil) ⟨a, xs, rfl, hq, fun p hn => ok_lst hr hp hxs hn⟩
    · split at hp
      · rename_i hk
        exact sorted_ok hu I (coll_seq I hq) hz hxs hk fun p ys hn hys => ok_lst hr hp hys hn
      · exact hp.elim
    · exact hp.elim
  have dctc : ∀ {a : Addr} {t : Bool} {kvs : List (D × D)}, x = .ref a → DctOk X.prog X.w X.K ι H a t kvs → PRes X XC W ι H QQ (seqC b (kvs.map (·.1)) G) →
      wpAny (model X.prog X.w) X.A (call b.val [v]) (EP X pins σ (QV QQ)) X.xe s := by
    intro a t kvs ex hd hp
    subst ex
    cases rx
    obtain ⟨xs, hxs, C, hL⟩ := coll_dct I hc hd
    have hz : (kvs.map (·.1)).length ≤ sizeLine := by
      rw [List.length_map]
      cases t with
      | false => obtain ⟨ks, h1, h2⟩ := hd; rw [← Paired.length h2]; exact (dk_of I.hok h1).1
      | true => obtain ⟨ks, h1, h3, h2⟩ := hd; exact Nat.le_trans h3 lim_line
    unfold seqC at hp
    split at hp
    · refine hL _ _ fun h' tk acc' c' hk he hv => ?_
      have hf := I.hok.fresh (Nat.le_refl s.heap.objs.size)
      exact ⟨.ref s.heap.objs.size, _, I.laid (t' := tk) hk (Nat.le_refl _) (show ObjOk X.prog X.w _ h' _ (.lst xs) from ⟨by rw [hxs.length]; exact hz, acc'.toList, c', hv, by rw [Array.toArray_toList]; exact he⟩), rfl, ok_lst hr hp hxs hf⟩
    · split at hp
      · rename_i hk
        exact sorted_ok hu I C hz hxs hk fun p ys hn hys => ok_lst hr hp hys hn
      · exact hp.elim
    · exact hp.elim
  have seqt : ∀ {ds : List D} {a : Addr} {xs : List V}, x = .ref a → (SqL X.K H a xs ∨ SqT X.K H a xs) → RVs X.K ι H xs ds → PRes X XC W ι H QQ (seqT b ds G) →
      wpAny (model X.prog X.w) X.A (call b.val [v]) (EP X pins σ (QV QQ)) X.xe s := by
    intro ds a xs ex hq hxs hp
    have ex' := ex
    unfold seqT at hp
    split at hp
    · subst ex
      rcases hq with hq | hq
      · exact call_tuple_of pins s σ H [.ref a] _ _ I (.cons rx .nil) ⟨a, xs, rfl, .inl ⟨hq, fun p hn => ok_tup hr hp hxs hn⟩⟩
      · exact call_tuple_of pins s σ H [.ref a] _ _ I (.cons rx .nil) ⟨a, xs, rfl, .inr ⟨hq, ok_val hr hp (.tup hq hxs)⟩⟩
    · split at hp
      · rename_i d rest
        split at hp
        · rename_i hk
          subst ex
          cases rx
          have hd := all_dok hk
          have hal := alikeAll_of hk
          have hdep : X.A.units + 1 + PyData.depthAll (d.toPy :: D.toPyL rest) < cLine := by
            have := toPyL_depth _ _ hd
            rw [D.toPyL] at this
            omega
          rcases hq with hq | hq
          · obtain ⟨its, rv, pl, hz⟩ := I.list hq
            obtain ⟨as, ra⟩ := reads_all I hd hxs rv
            refine PySem.W.min_list_data (vs := its.toArray) (I.ok.hd hc) pl.isList (by simpa [D.toPyL] using ra) (by simpa [D.toPyL] using hal) hdep fun i v h' tk bs hi rd k => ?_
            rw [← minD_toPy] at rd
            obtain ⟨z, rz, rvz⟩ := best_ok I hd (minD_mem rest d) hxs rv (by simpa using hi) k rd
            exact ⟨z, H, I.kept k, rz, ok_val hr hp rvz⟩
          · obtain ⟨its, rv, pl, hz⟩ := I.tuple hq
            obtain ⟨as, ra⟩ := reads_all I hd hxs rv
            refine PySem.W.min_tuple_data (vs := its.toArray) (I.ok.hd hc) (show s.heap.IsTuple a its.toArray from pl) (by simpa [D.toPyL] using ra) (by simpa [D.toPyL] using hal) hdep fun i v h' tk bs hi rd k => ?_
            rw [← minD_toPy] at rd
            obtain ⟨z, rz, rvz⟩ := best_ok I hd (minD_mem rest d) hxs rv (by simpa using hi) k rd
            exact ⟨z, H, I.kept k, rz, ok_val hr hp rvz⟩
        · exact hp.elim
      · exact hp.elim
    · split at hp
      · rename_i d rest
        split at hp
        · rename_i hk
          subst ex
          cases rx
          have hd := all_dok hk
          have hal := alikeAll_of hk
          have hdep : X.A.units + 1 + PyData.depthAll (d.toPy :: D.toPyL rest) < cLine := by
            have := toPyL_depth _ _ hd
            rw [D.toPyL] at this
            omega
          rcases hq with hq | hq
          · obtain ⟨its, rv, pl, hz⟩ := I.list hq
            obtain ⟨as, ra⟩ := reads_all I hd hxs rv
            refine PySem.W.max_list_data (vs := its.toArray) (I.ok.hd hc) pl.isList (by simpa [D.toPyL] using ra) (by simpa [D.toPyL] using hal) hdep fun i v h' tk bs hi rd k => ?_
            rw [← maxD_toPy] at rd
            obtain ⟨z, rz, rvz⟩ := best_ok I hd (maxD_mem rest d) hxs rv (by simpa using hi) k rd
            exact ⟨z, H, I.kept k, rz, ok_val hr hp rvz⟩
          · obtain ⟨its, rv, pl, hz⟩ := I.tuple hq
            obtain ⟨as, ra⟩ := reads_all I hd hxs rv
            refine PySem.W.max_tuple_data (vs := its.toArray) (I.ok.hd hc) (show s.heap.IsTuple a its.toArray from pl) (by simpa [D.toPyL] using ra) (by simpa [D.toPyL] using hal) hdep fun i v h' tk bs hi rd k => ?_
            rw [← maxD_toPy] at rd
            obtain ⟨z, rz, rvz⟩ := best_ok I hd (maxD_mem rest d) hxs rv (by simpa using hi) k rd
            exact ⟨z, H, I.kept k, rz, ok_val hr hp rvz⟩
        · exact hp.elim
      · exact hp.elim
    · exact seqc ex' hq hxs hp
  have seql : ∀ {ds : List D} {a : Addr} {xs : List V}, x = .ref a → SqL X.K H a xs → RVs X.K ι H xs ds → PRes X XC W ι H QQ (seqL b ds G) →
      wpAny (model X.prog X.w) X.A (call b.val [v]) (EP X pins σ (QV QQ)) X.xe s := by
    intro ds a xs ex hq hxs hp
    have ex' := ex
    unfold seqL at hp
    split at hp
    · split at hp
      · rename_i is e
        subst ex
        rw [ints_of e] at hxs
        rw [rvs_ints hxs] at hq
        exact cr_sum hc pins s σ H [.ref a] _ _ I (.cons rx .nil) ⟨a, is, rfl, hq, ok_val hr hp (.int _)⟩
      · exact hp.elim
    · split at hp
      · rename_i is e
        subst ex
        rw [bls_of e] at hxs
        rw [rvs_bls hxs] at hq
        exact cr_all hc pins s σ H [.ref a] _ _ I (.cons rx .nil) ⟨a, is, rfl, hq, ok_val hr hp (.bl _)⟩
      · exact hp.elim
    · split at hp
      · rename_i is e
        subst ex
        rw [bls_of e] at hxs
        rw [rvs_bls hxs] at hq
        exact cr_any hc pins s σ H [.ref a] _ _ I (.cons rx .nil) ⟨a, is, rfl, hq, ok_val hr hp (.bl _)⟩
      · exact hp.elim
    · exact seqt ex' (.inl hq) hxs hp
  unfold seqR at h
  split at h
  · obtain ⟨a, xs, e1, h1, h2⟩ := rv_tup qx
    exact seqt e1 (.inr h1) h2 h
  · cases qx with
    | frl h1 h2 => exact seql rfl h1.sql h2 h
  · obtain ⟨a, xs, e1, h1, h2, _⟩ := qx
    exact seql e1 (SqL.of h1) h2 h
  · cases qx with
    | ref hn =>
      split at h
      · rename_i hg
        obtain ⟨xs, h1, h2⟩ := hr.cell _ _ _ hg hn
        exact seql rfl (SqL.of h1) h2 h
      · rename_i hg
        exact dctc rfl (hr.cell _ _ _ hg hn) h
      · exact h.elim
  · obtain ⟨a, e1, h1, _⟩ := qx
    exact dctc e1 h1 h
  · exact h.elim
end
end LK

set_option Elab.async false
set_option linter.all false
set_option autoImplicit false
set_option maxRecDepth 100000
set_option maxHeartbeats 4000000
/-! LkMut: stores and methods of lists. -/
namespace LK
open PySem PySem.Spec PyProof.Rows L2

section
variable {P : Program} {w : World} {K : PySem.W.Frag} {ι : List Addr} {G : Hpp} {H : Hp}
theorem Fr2.write {a : Addr} {o : HO} (h : a ∈ ι) : Fr2 ι H ι (upd H a o) where
  pre := List.prefix_refl _
  fresh := fun n x hn e => by rw [List.getElem?_eq_none hn] at e; cases e
  ext := fun x u e hx => by rw [upd_ne (fun z : x = a => hx (by rw [z]; exact h))]; exact e
theorem HR.write (r : HR P w K ι G H) {n : Nat} {a : Addr} {c : Cell} {o : HO} (ha : ι[n]? = some a) (hc : CellOk P w K ι (upd H a o) a c) : HR P w K ι (G.set n c) (upd H a o) := by
  have hm : a ∈ ι := List.mem_iff_getElem?.mpr ⟨n, ha⟩
  refine ⟨by rw [List.length_set]; exact r.len, r.nd, fun m d x e1 e2 => ?_⟩
  by_cases hmn : n = m
  · subst hmn
    rw [ha] at e2; cases e2
    have hl : n < G.length := by rw [← r.len]; exact (List.getElem?_eq_some_iff.mp ha).1
    rw [List.getElem?_set_self hl] at e1
    cases e1
    exact hc
  · rw [List.getElem?_set_ne hmn] at e1
    have hx : x ≠ a := fun e => by
      subst e
      have h1 := (List.getElem?_eq_some_iff.mp ha).1
      exact hmn ((List.getElem?_inj h1 r.nd).mp (ha.trans e2.symm))
    exact (r.cell m d x e1 e2).go r (Fr2.write hm) fun u e => by rw [upd_ne hx]; exact e
theorem dictOb_obj {h : Heap} {a : Addr} {xs : List (NestedKey × Addr × Value)} (lo : (a == sysModules) = false) {o : Obj} {es : Array DictEntry} {ep : Nat} (h1 : h.get? a = some o) (h2 : o.ExactDict) (h3 : o.data = .dict es ep) (h4 : es.toList = xs.map (entryOfKey (nestedKind P w))) (h5 : (xs.map (·.1)).Nodup) {H' : Hp} :
    ObjOk P w H' h a (DictOb P w a xs) := by
  refine ⟨⟨lo, o, es, ep, h1, h2, h3, h4, h5⟩, ⟨o, h1⟩, fun g1 g2 ⟨q0, o', es', ep', q1, q⟩ k => ⟨q0, o', es', ep', k _ q1, q⟩⟩
end
section
variable {X : Cx} {pins : List (Addr × Obj)} {σ : L2.St} {s : Shared} {ι : List Addr} {G : Hpp} {H H0 H1 : Hp} {x y z : V} {v u : Value} {r q : R}
  {XC : Str → D → List Addr → Hp → Value → Option Addr → Prop} {W : Value → Option Addr → Hp → Prop} {QQ : R → List Addr → Hpp → Hp → V → Prop}
theorem put_k {k : Key} {d e : D} {z : V} (h : RV X.K ι H (kV k) d) (hz : RV X.K ι H z e) {ks : List (Key × V)} {kvs : List (D × D)} (hp : Paired (fun (q : Key × V) (p : D × D) => RV X.K ι H (kV q.1) p.1 ∧ RV X.K ι H q.2 p.2) ks kvs) :
    Paired (fun (q : Key × V) (p : D × D) => RV X.K ι H (kV q.1) p.1 ∧ RV X.K ι H q.2 p.2) (putK ks k z) (dput kvs d e) := by
  have any : (ks.any fun kv => decide (kv.1 = k)) = (dfind kvs d).isSome := by
    induction hp with
    | nil => rfl
    | @cons q p qs ps h1 hs ih =>
      have e := kV_dec h1.1 h
      rw [List.any_cons, e]
      by_cases hpd : p.1 = d
      · rw [dfind_pos hpd, decide_eq_true hpd]; rfl
      · rw [dfind_neg hpd, decide_eq_false hpd, ih]; rfl
  unfold putK dput
  rw [any]
  split
  · rename_i hany
    clear any hany
    induction hp with
    | nil => exact .nil
    | @cons q p qs ps h1 hs ih =>
      refine .cons ?_ ih
      have e := kV_dec h1.1 h
      by_cases hpd : p.1 = d
      · have hq : q.1 = k := of_decide_eq_true (by rw [e]; exact decide_eq_true hpd)
        dsimp only
        rw [if_pos hq, if_pos hpd]
        exact ⟨h1.1, hz⟩
      · have hq : ¬ q.1 = k := of_decide_eq_false (by rw [e]; exact decide_eq_false hpd)
        dsimp only
        rw [if_neg hq, if_neg hpd]
        exact h1
  · rename_i hany
    clear any hany
    induction hp with
    | nil => exact .cons ⟨h, hz⟩ .nil
    | cons h1 hs ih => exact .cons h1 ih
theorem put_t {d e : D} {b : Addr} {z : V} {zv : Value} (hk : D.kok 8 d = true) (ht : d.isTup = true) (h : RV X.K ι H (.ref b) d) (rz : L2.RelV z zv) (hz : RV X.K ι H z e) {xs : List (NestedKey × Addr × Value)} {kvs : List (D × D)} (hp : Paired (TP2 X ι H) xs kvs) :
    Paired (TP2 X ι H) (storedH xs (nk d) b zv) (dput kvs d e) := by
  have any := (find_t (X := X) (ι := ι) (H := H) hk hp).1
  unfold storedH dput
  rw [any]
  split
  · rename_i hany
    clear any hany
    induction hp with
    | nil => exact .nil
    | @cons x p qs ps h1 hs ih =>
      refine .cons ?_ ih
      obtain ⟨h1, h2, h3, h4, h5⟩ := h1
      unfold putAt
      by_cases hpd : p.1 = d
      · have hx : x.1 = nk d := by rw [h1, hpd]
        dsimp only
        rw [if_pos hpd, if_pos hx]
        exact ⟨h1, h2, h3, h4, z, rz, hz⟩
      · have hx : ¬ x.1 = nk d := fun e => hpd (nk_inj _ _ _ _ h2 hk (h1 ▸ e))
        dsimp only
        rw [if_neg hpd, if_neg hx]
        exact ⟨h1, h2, h3, h4, h5⟩
  · rename_i hany
    clear any hany
    induction hp with
    | nil => exact .cons ⟨rfl, hk, ht, h, z, rz, hz⟩ .nil
    | cons h1 hs ih => exact .cons h1 ih
theorem dput_len (kvs : List (D × D)) (k v : D) : (dput kvs k v).length ≤ kvs.length + 1 := by
  unfold dput
  split <;> simp
theorem TP2.go {ι' : List Addr} {H' : Hp} (hr : HR X.prog X.w X.K ι G H) (f : Fr2 ι H ι' H') {xs : List (NestedKey × Addr × Value)} {kvs : List (D × D)} (h : Paired (TP2 X ι H) xs kvs) : Paired (TP2 X ι' H') xs kvs :=
  L2.Paired.mapP h fun _ _ q => ⟨q.1, q.2.1, q.2.2.1, q.2.2.2.1.go hr f, let ⟨y, y1, y2⟩ := q.2.2.2.2; ⟨y, y1, y2.go hr f⟩⟩
/-- d[k] = e of a dict that is a cell, or a new one: what stands then -/
theorem setDict_ok {a : Addr} {t : Bool} {kvs : List (D × D)} {d e : D} (hu : X.A.units + 150 < cLine) (I : Inv X pins σ H s) (rx : L2.RelV x v) (qx : RV X.K ι H x d) (rz : L2.RelV z u) (qz : RV X.K ι H z e) (hd : DctOk X.prog X.w X.K ι H a t kvs) (hk : keyFor t d = true) (hl : kvs.length < LIM)
    {Q : Unit → Shared → Prop} (h : ∀ o s', Inv X pins σ (upd H a o) s' → (∀ ι' , (∀ {v : V} {d : D}, RV X.K ι H v d → RV X.K ι' (upd H a o) v d) → DctOk X.prog X.w X.K ι' (upd H a o) a t (dput kvs d e)) → Q () s') :
    wpAny (model X.prog X.w) X.A (setItem (.ref a) v u) Q X.xe s := by
  cases t with
  | false =>
    obtain ⟨ks, h1, h2⟩ := hd
    obtain ⟨k, rfl⟩ := key_of hk qx
    have hl2 : ks.length < sizeLine := by rw [Paired.length h2]; exact Nat.lt_of_lt_of_le hl lim_line
    refine d_setItem (by omega) I (DPut.k h1 hl2) rx rz fun s' I' => h _ s' I' fun ι' hm => ⟨_, upd_same, L2.Paired.mapP (put_k qx qz h2) fun _ _ q => ⟨hm q.1, hm q.2⟩⟩
  | true =>
    obtain ⟨xs, h1, h3, h2⟩ := hd
    obtain ⟨lo, hh⟩ := dictOb_at I h1 h2
    obtain ⟨b, rfl, rfl, hi, hk8⟩ := key_t hk I qx rx
    have ht : d.isTup = true := by simp only [keyFor, Bool.and_eq_true, beq_iff_eq] at hk; exact hk.2
    have hroom : (nestedKind X.prog X.w).room X.A.in1 := by show X.A.units + 1 + 8 < cLine; omega
    have hz : xs.length ≤ sizeLine := by rw [Paired.length h2]; exact Nat.le_trans (Nat.le_of_lt hl) lim_line
    refine wpAny_setItem_heap (hsz := hz) hroom hi hh fun h' dd' hs => ?_
    obtain ⟨o, es, ep, g1, g2, g3, g4, _, g5⟩ := dd'
    have I' : Inv X pins σ (upd H a (DictOb X.prog X.w a (storedH xs (nk d) b u))) { s with heap := h', toks := s.toks + (nestedKind X.prog X.w).draws (nk d) } :=
      d_write I (by rw [h1]; exact True.intro) hs ⟨o, g1⟩ (dictOb_obj lo g1 g2 g3 g4 g5)
    refine h _ _ I' fun ι' hm => ⟨_, upd_same, Nat.le_trans (dput_len _ _ _) hl, L2.Paired.mapP (put_t hk8 ht qx rz qz h2) fun _ _ q => ⟨q.1, q.2.1, q.2.2.1, hm q.2.2.2.1, let ⟨y, y1, y2⟩ := q.2.2.2.2; ⟨y, y1, hm y2⟩⟩⟩
theorem ixN_len {n : Nat} {i : Int} {j : Nat} (h : L2.ixN n i = some j) : j < n := (ixN_seq h).2.1
/-- o[i] = e -/
theorem setIR_ok {d : D} {G' : Hpp} (hu : X.A.units + 150 < cLine) (I : Inv X pins σ H s) (hr : HR X.prog X.w X.K ι G H) {xo xi : V} {vo vi : Value} (ro : L2.RelV xo vo) (ri : L2.RelV xi vi) (rz : L2.RelV z u) (qo : RR X.prog X.w X.K H0 ι H xo r) (qi : RR X.prog X.w X.K H1 ι H xi q) (qz : RV X.K ι H z d)
    (e : setIR r q d G = some G') {Q : Unit → Shared → Prop} (h : ∀ H' s', Inv X pins σ H' s' → Fr2 ι H ι H' → HR X.prog X.w X.K ι G' H' → Q () s') : wpAny (model X.prog X.w) X.A (setItem vo vi u) Q X.xe s := by
  unfold setIR at e
  split at e
  · cases qo with
    | ref hn =>
      have hm : _ ∈ ι := List.mem_iff_getElem?.mpr ⟨_, hn⟩
      split at e
      · rename_i t kvs hg
        split at e
        · rename_i hk
          cases e
          cases ro
          refine setDict_ok hu I ri qi rz qz (hr.cell _ _ _ hg hn) hk.1 hk.2 fun o s' I' hD => ?_
          exact h _ s' I' (Fr2.write hm) (hr.write hn (hD ι fun q => q.go hr (Fr2.write hm)))
        · cases e
      · rename_i ds hg
        obtain ⟨xs, h1, h2⟩ := hr.cell _ _ _ hg hn
        split at e
        · split at e
          · rename_i m hi
            cases e
            refine thn (set_list pins s σ H _ _ z vo vi u (fun H' => ∃ j, H' = upd H _ (.lst (xs.set j z)) ∧ j = m) I ro ri rz ⟨_, xs, _, m, rfl, rv_int qi, h1, by rw [h2.length]; exact hi, m, rfl, rfl⟩) fun _ s' ⟨H', I', j, e1, e2⟩ => ?_
            subst e1 e2
            exact h _ s' I' (Fr2.write hm) (hr.write hn ⟨_, upd_same, (h2.set qz _).go hr (Fr2.write hm)⟩)
          · cases e
        · cases e
      · cases e
  · cases e
theorem findIdx_py {d : D} (hd : D.dok 60 d = true) : ∀ {ds : List D}, ds.all (D.dok 60) = true → SeqAt.dataPlace (D.toPyL ds) d.toPy = ds.findIdx? fun z => D.eqv z d
  | [], _ => rfl
  | x :: xs, h => by
    rw [List.all_cons, Bool.and_eq_true] at h
    have ih := findIdx_py hd h.2
    unfold SeqAt.dataPlace at ih ⊢
    rw [D.toPyL, List.findIdx?_cons, List.findIdx?_cons, toPy_eqv x 60 h.1 d 60 hd, ih]
def M1.id : M1 → String
  | .append => "list.append" | .extend => "list.extend" | .remove => "list.remove" | .pop => "list.pop" | .index => "list.index" | .count => "list.count"
def M1.nm : M1 → Str
  | .append => "append" | .extend => "extend" | .remove => "remove" | .pop => "pop" | .index => "index" | .count => "count"
/-- a value is bound: a new list becomes a cell -/
theorem bindD (hr : HR X.prog X.w X.K ι G H) (h : RR X.prog X.w X.K H0 ι H x r) : ∃ d G1 ι', toD r G = .ok d G1 ∧ HR X.prog X.w X.K ι' G1 H ∧ RV X.K ι' H x d ∧ ι <+: ι' ∧ (∀ n a, ι.length ≤ n → ι'[n]? = some a → H0 a = none) ∧ (∀ {v : V} {d : D}, RV X.K ι H v d → RV X.K ι' H v d) ∧ (∀ {n : Nat} {c : Cell}, G[n]? = some c → G1[n]? = some c) ∧ (∀ a ∈ ι', a ∈ ι ∨ H0 a = none) := by
  have new : ∀ {a : Addr} {c : Cell}, CellOk X.prog X.w X.K ι H a c → H0 a = none → a ∉ ι → HR X.prog X.w X.K (ι ++ [a]) (G ++ [c]) H ∧ RV X.K (ι ++ [a]) H (.ref a) (.ref G.length) ∧ (∀ n b, ι.length ≤ n → (ι ++ [a])[n]? = some b → H0 b = none) := by
    intro a c hc h0 ha
    refine ⟨hr.push ha (hc.up a), .ref ?_, fun n b hn e => ?_⟩
    · rw [← hr.len]; simp
    · rw [List.getElem?_append_right hn] at e
      have h1 : n - ι.length = 0 := by
        cases q : n - ι.length with
        | zero => rfl
        | succ k => rw [q] at e; simp at e
      rw [h1] at e
      simp at e
      subst e
      exact h0
  have app : ∀ {c : Cell} {n : Nat} {d : Cell}, G[n]? = some d → (G ++ [c])[n]? = some d := fun {c n d} e => by
    rw [List.getElem?_append_left (List.getElem?_eq_some_iff.mp e).1]; exact e
  cases r with
  | val d => exact ⟨d, G, ι, rfl, hr, h, List.prefix_refl _, fun n a hn e => (by rw [List.getElem?_eq_none hn] at e; cases e), fun q => q, fun e => e, fun a h => .inl h⟩
  | newL ds =>
    obtain ⟨a, xs, rfl, h1, h2, h3, h4⟩ := h
    obtain ⟨n1, n2, n3⟩ := new (c := .lst ds) ⟨xs, h1, h2⟩ h3 h4
    exact ⟨_, _, _, rfl, n1, n2, List.prefix_append _ _, n3, fun q => q.up a, app, fun b hb => (List.mem_append.mp hb).imp_right fun z => by simp at z; subst z; exact h3⟩
  | newD t kvs =>
    obtain ⟨a, rfl, h1, h3, h4⟩ := h
    obtain ⟨n1, n2, n3⟩ := new (c := .dct t kvs) h1 h3 h4
    exact ⟨_, _, _, rfl, n1, n2, List.prefix_append _ _, n3, fun q => q.up a, app, fun b hb => (List.mem_append.mp hb).imp_right fun z => by simp at z; subst z; exact h3⟩
  | newS ds => exact h.elim
theorem Fr2.bound {ι1 : List Addr} {H1 : Hp} {ι' : List Addr} (f : Fr2 ι1 H1 ι H) (p : ι <+: ι') (hf : ∀ n a, ι.length ≤ n → ι'[n]? = some a → H1 a = none) : Fr2 ι1 H1 ι' H where
  pre := f.pre.trans p
  fresh := fun n a hn e => by
    by_cases h : n < ι.length
    · obtain ⟨t, rfl⟩ := p
      rw [List.getElem?_append_left h] at e
      exact f.fresh n a hn e
    · exact hf n a (Nat.le_of_not_lt h) e
  ext := f.ext
theorem Fr2.wrote {ι1 : List Addr} {H1 : Hp} (hr : HR X.prog X.w X.K ι G H) (f : Fr2 ι1 H1 ι H) {a : Addr} {o : HO} (h : a ∈ ι) : Fr2 ι1 H1 ι (upd H a o) := f.trans hr (Fr2.write h)
/-- o.m(a): ι1, H1 ahead of a's reading -/
theorem meth1_ok {m : M1} {ι1 : List Addr} {H1 : Hp} (hu : X.A.units + 150 < cLine) (I : Inv X pins σ H s) (hr : HR X.prog X.w X.K ι G H) (f : Fr2 ι1 H1 ι H) {xo xi : V} {vo vi : Value} (ro : L2.RelV xo vo) (ri : L2.RelV xi vi) (qo : RR X.prog X.w X.K H0 ι H xo r) (qi : RR X.prog X.w X.K H1 ι H xi q)
    (h : PRes X XC W ι1 H1 QQ (meth1R m r q G)) : wpAny (model X.prog X.w) X.A (call (.builtin m.id) [vo, vi]) (EP X pins σ (QV QQ)) X.xe s := by
  unfold meth1R at h
  split at h
  · -- append
    cases qo with
    | ref hn =>
      split at h
      · rename_i ds hg
        split at h
        · rename_i hl
          obtain ⟨d, G1, ι', e1, r1, q1, p1, f1, up, hG, _⟩ := bindD hr qi
          rw [e1] at h
          have h : PRes X XC W ι1 H1 QQ (.ok (.val .non) (G1.set _ (.lst (ds ++ [d])))) := h
          obtain ⟨xs, h1, h2⟩ := hr.cell _ _ _ hg hn
          have hn' := pre_get p1 hn
          have hm : _ ∈ ι' := List.mem_iff_getElem?.mpr ⟨_, hn'⟩
          refine mt_append pins s σ H _ [xi] vo [vi] _ I ro (.cons ri .nil) ⟨_, xs, xi, rfl, rfl, h1, by rw [h2.length]; exact Nat.lt_of_lt_of_le hl lim_line, _, ι', _, h ι' _ .non ((f.bound p1 f1).wrote r1 hm) (r1.write hn' ⟨_, upd_same, ?_⟩) .non⟩
          have h2' : RVs X.K ι' H xs ds := by
            have := (r1.cell _ _ _ (hG hg) hn')
            obtain ⟨xs', g1, g2⟩ := this
            rw [h1] at g1; cases g1
            exact g2
          exact (h2'.append (.cons q1 .nil)).go r1 (Fr2.write hm)
        · exact h.elim
      · exact h.elim
  · -- extend
    cases qo with
    | ref hn =>
      split at h
      · rename_i ds es hg he
        split at h
        · rename_i hl
          obtain ⟨xs, h1, h2⟩ := hr.cell _ _ _ hg hn
          obtain ⟨b, ys, rfl, h3, h4⟩ := rr_lstM hr qi he
          have hm : _ ∈ ι := List.mem_iff_getElem?.mpr ⟨_, hn⟩
          exact mt_extend pins s σ H _ _ vo [vi] _ I ro (.cons ri .nil) ⟨_, b, xs, ys, rfl, rfl, h1, h3, by rw [h2.length, h4.length]; exact Nat.le_trans hl lim_line, _, ι, _, h ι _ .non (f.wrote hr hm) (hr.write hn ⟨_, upd_same, (h2.append h4).go hr (Fr2.write hm)⟩) .non⟩
        · exact h.elim
      · exact h.elim
  · -- remove
    cases qo with
    | ref hn =>
      split at h
      · rename_i ds d hg
        split at h
        · rename_i hk
          split at h
          · rename_i j hj
            rw [Bool.and_eq_true] at hk
            obtain ⟨xs, h1, h2⟩ := hr.cell _ _ _ hg hn
            have hm : _ ∈ ι := List.mem_iff_getElem?.mpr ⟨_, hn⟩
            cases ro
            obtain ⟨z, its, n, rv, hlen, e⟩ := I.lstM h1
            obtain ⟨as, ra⟩ := reads_all I hk.2 h2 rv
            obtain ⟨bs, rb⟩ := Dp.reads I _ _ _ (rv_dp _ 60 hk.1 qi) ri
            have hroom : X.A.units + 1 + min (PyData.depthAll (D.toPyL ds)) d.toPy.depth < cLine := by
              have h5 := toPyL_depth _ _ hk.2
              have h6 := Nat.min_le_left (PyData.depthAll (D.toPyL ds)) d.toPy.depth
              omega
            refine SeqAt.remove_list_data (vs := its.toArray) ⟨_, e, rfl, _, rfl⟩ (by simpa using ra) rb (toPyL_plain _ _ hk.2) (toPy_plain _ _ hk.1) hroom (by rw [findIdx_py hk.1 hk.2]; exact hj) (by rw [List.size_toArray]; omega) ?_
            refine ⟨.non, _, I.lset (its' := its.eraseIdx j) h1 e ?_ (rv.eraseIdx j) ?_, rfl, _, ι, _, h ι _ .non (f.wrote hr hm) (hr.write hn ⟨_, upd_same, (h2.erase j).go hr (Fr2.write hm)⟩) .non⟩
            · rw [List.eraseIdxIfInBounds_toArray]
            · have := len_erase xs j
              omega
          · exact h.elim
        · exact h.elim
      · exact h.elim
  · -- pop(i)
    cases qo with
    | ref hn =>
      split at h
      · rename_i ds i hg
        split at h
        · rename_i j hj
          split at h
          · rename_i d hd
            obtain ⟨xs, h1, h2⟩ := hr.cell _ _ _ hg hn
            have hm : _ ∈ ι := List.mem_iff_getElem?.mpr ⟨_, hn⟩
            obtain ⟨y, hy, ry⟩ := h2.get hd
            obtain ⟨s1, s2, s3, s4⟩ := ixN_seq hj
            have hz := (I.lstM h1).1
            rw [h2.length] at hz
            have hn63 := line63
            exact mt_popAt pins s σ H _ _ vo [vi] _ I ro (.cons ri .nil) ⟨_, xs, i, j, y, rfl, by rw [rv_int qi], h1, by omega, by omega, by rw [h2.length]; exact s1, hy, _, ι, _, h ι _ y (f.wrote hr hm) (hr.write hn ⟨_, upd_same, (h2.erase j).go hr (Fr2.write hm)⟩) (ry.go hr (Fr2.write hm))⟩
          · exact h.elim
        · exact h.elim
      · exact h.elim
  · exact h.elim
def M0.id : M0 → String
  | .pop => "list.pop"
def M0.nm : M0 → Str
  | .pop => "pop"
theorem meth0_ok {m : M0} {ι1 : List Addr} {H1 : Hp} (I : Inv X pins σ H s) (hr : HR X.prog X.w X.K ι G H) (f : Fr2 ι1 H1 ι H) {xo : V} {vo : Value} (ro : L2.RelV xo vo) (qo : RR X.prog X.w X.K H0 ι H xo r)
    (h : PRes X XC W ι1 H1 QQ (meth0R m r G)) : wpAny (model X.prog X.w) X.A (call (.builtin m.id) [vo]) (EP X pins σ (QV QQ)) X.xe s := by
  unfold meth0R at h
  split at h
  · cases qo with
    | ref hn =>
      split at h
      · rename_i ds hg
        split at h
        · rename_i d hd
          obtain ⟨xs, h1, h2⟩ := hr.cell _ _ _ hg hn
          have hm : _ ∈ ι := List.mem_iff_getElem?.mpr ⟨_, hn⟩
          have hd' : ds[ds.length - 1]? = some d := by rw [List.getLast?_eq_getElem?] at hd; exact hd
          obtain ⟨y, hy, ry⟩ := h2.get hd'
          have e : xs.dropLast = xs.eraseIdx (xs.length - 1) := by rw [List.dropLast_eq_take, List.eraseIdx_eq_take_drop_succ]; simp; omega
          have e2 : ds.dropLast = ds.eraseIdx (ds.length - 1) := by rw [List.dropLast_eq_take, List.eraseIdx_eq_take_drop_succ]; simp; omega
          refine mt_pop pins s σ H _ _ vo [] _ I ro .nil ⟨_, xs, y, rfl, rfl, h1, by rw [h2.length]; exact hy, _, ι, _, h ι _ y (f.wrote hr hm) (hr.write hn ⟨_, upd_same, ?_⟩) (ry.go hr (Fr2.write hm))⟩
          rw [e, e2, h2.length]
          exact (h2.erase _).go hr (Fr2.write hm)
        · exact h.elim
      · exact h.elim
  · exact h.elim
end
end LK

set_option Elab.async false
set_option linter.all false
set_option autoImplicit false
set_option maxRecDepth 100000
set_option maxHeartbeats 4000000
/-! LkExpr: expressions, as HandS's judgements. -/
namespace LK
open PySem PySem.Spec PyProof.Rows L2

abbrev XCT := Str → D → List Addr → Hp → Value → Option Addr → Prop
abbrev WT := Value → Option Addr → Hp → Prop
section
variable (X : Cx) (XC : XCT) (W : WT)
/-- the wish of a piece of code, by its function in the language -/
def tX {α β : Type} (Rel : Hp → List Addr → Hp → β → α → Prop) (f : Env → Hpp → Res α) : L2.St → Hp → (β → Hp → Prop) → Prop := fun σ H Q =>
  ∃ ι ρ G, HR X.prog X.w X.K ι G H ∧ ER X.K ι H σ ρ ∧ Post X.prog X.w X.K Rel XC W ι H (fun _ _ _ H' v => Q v H') (f ρ G)
abbrev tR (f : Env → Hpp → Res R) : TE := tX X XC W (RR X.prog X.w X.K) f
def RelD (K : PySem.W.Frag) : Hp → List Addr → Hp → V → D → Prop := fun _ ι H v d => RV K ι H v d
def RelL (K : PySem.W.Frag) : Hp → List Addr → Hp → List V → List D → Prop := fun _ ι H v d => RVs K ι H v d
def RelB : Hp → List Addr → Hp → Bool → Bool → Prop := fun _ _ _ b c => b = c
def asB : R → Hpp → Res Bool
  | .val (.bl b), G => .ok b G
  | _, _ => .bad
abbrev tT (f : Env → Hpp → Res R) : TT := tX X XC W RelB fun ρ G => (f ρ G).bind asB
abbrev tA (f : Env → Hpp → Res (List D)) : TA := tX X XC W (RelL X.K) f
end
section
variable {X : Cx} {XC : XCT} {W : WT} {α β γ δ : Type} {Rel : Hp → List Addr → Hp → β → α → Prop} {Rel2 : Hp → List Addr → Hp → δ → γ → Prop}
  {pins : List (Addr × Obj)} {σ : L2.St} {s : Shared} {ι : List Addr} {ρ : Env} {G : Hpp} {H : Hp}
/-- behind one piece, ahead of the next -/
def Nxt (X : Cx) (XC : XCT) (W : WT) (Rel : Hp → List Addr → Hp → β → α → Prop) (Rel2 : Hp → List Addr → Hp → δ → γ → Prop) (σ : L2.St) (ρ : Env) (ι : List Addr) (H : Hp) (QQ : γ → List Addr → Hpp → Hp → δ → Prop) (k : α → Hpp → Res γ) (v : β) (H1 : Hp) : Prop :=
  ∃ a ι1 G1, Fr2 ι H ι1 H1 ∧ HR X.prog X.w X.K ι1 G1 H1 ∧ ER X.K ι1 H1 σ ρ ∧ Rel H ι1 H1 v a ∧ Post X.prog X.w X.K Rel2 XC W ι H QQ (k a G1)
theorem step {f : Env → Hpp → Res α} {QQ : γ → List Addr → Hpp → Hp → δ → Prop} {k : α → Hpp → Res γ} (hr : HR X.prog X.w X.K ι G H) (er : ER X.K ι H σ ρ) (h : Post X.prog X.w X.K Rel2 XC W ι H QQ ((f ρ G).bind k)) :
    tX X XC W Rel f σ H (Nxt X XC W Rel Rel2 σ ρ ι H QQ k) :=
  ⟨ι, ρ, G, hr, er, (Post.bind h).imp fun a ι1 G1 H1 v q => ⟨a, ι1, G1, q.1, q.2.1, er.go hr q.1, q.2.2.1, q.2.2.2⟩⟩
theorem step2 {f : Env → Hpp → Res α} {QQ : γ → List Addr → Hpp → Hp → δ → Prop} {k : α → Hpp → Res γ} {ι1 : List Addr} {G1 : Hpp} {H1 : Hp} (fr : Fr2 ι H ι1 H1) (hr : HR X.prog X.w X.K ι1 G1 H1) (er : ER X.K ι1 H1 σ ρ)
    (hb : ∀ ι2 H2 v a, Rel2 H1 ι2 H2 v a → Rel2 H ι2 H2 v a) (h : Post X.prog X.w X.K Rel2 XC W ι H QQ ((f ρ G1).bind k)) : tX X XC W Rel f σ H1 (Nxt X XC W Rel Rel2 σ ρ ι1 H1 QQ k) :=
  step hr er (h.shift hr fr hb)
theorem backR {ι1 : List Addr} {G1 : Hpp} {H1 : Hp} (fr : Fr2 ι H ι1 H1) (hr : HR X.prog X.w X.K ι1 G1 H1) : ∀ ι2 H2 v a, RR X.prog X.w X.K H1 ι2 H2 v a → RR X.prog X.w X.K H ι2 H2 v a := fun _ _ _ _ q => q.back hr fr
theorem ep_of {Q : VK} {u : Value} {s' : Shared} (h : EP X pins σ (QV fun _ _ _ H' v => Q v H') u s') : EP X pins σ Q u s' := by
  obtain ⟨v, H', I, r, _, _, _, q⟩ := h
  exact ⟨v, H', I, r, q⟩
theorem ep_qv {QQ : R → List Addr → Hpp → Hp → V → Prop} {Q : VK} (hq : ∀ r ι G H v, QQ r ι G H v → Q v H) {u : Value} {s' : Shared} (h : EP X pins σ (QV QQ) u s') : EP X pins σ Q u s' := by
  obtain ⟨v, H', I, r, _, _, _, q⟩ := h
  exact ⟨v, H', I, r, hq _ _ _ _ _ q⟩
variable {a b c : Expr} {fa fb fc : Env → Hpp → Res R} {pos : Pos}
theorem PE.imp {e : Expr} {t t' : TE} (h : PE X e t) (hi : ∀ σ H Q, t' σ H Q → t σ H Q) : PE X e t' := ⟨fun pins s σ H Q I q => h.run pins s σ H Q I (hi σ H Q q)⟩
theorem tR_ok {d : D} {v : V} {Q : VK} (h : tR X XC W (fun _ G => okV d G) σ H Q) (hv : ∀ ι, RV X.K ι H v d) : Q v H := by
  obtain ⟨ι, ρ, G, hr, er, h⟩ := h
  exact h ι H v .refl hr (hv ι)
theorem x_int {i : Int} {k pos} : PE X (.Constant (.int i) k pos) (tR X XC W fun _ G => okV (.int i) G) := PE.imp pe_int fun _ _ _ h => tR_ok h fun _ => .int i
theorem x_bl {i : Bool} {k pos} : PE X (.Constant (.bool i) k pos) (tR X XC W fun _ G => okV (.bl i) G) := PE.imp pe_bl fun _ _ _ h => tR_ok h fun _ => .bl i
theorem x_non {k pos} : PE X (.Constant .none k pos) (tR X XC W fun _ G => okV .non G) := PE.imp pe_non fun _ _ _ h => tR_ok h fun _ => .non
theorem x_str {z : Str} {k pos} : PE X (.Constant (.str z) k pos) (tR X XC W fun _ G => okV (.str z) G) := PE.imp pe_str fun _ _ _ h => tR_ok h fun _ => .str z
theorem x_var {i : Nat} {x : Str} (hN : X.N[i]? = some x) (hv : Vis X.env.scope x) (hd : (x == ("__debug__" : Str)) = false) (hcd : (x == ("__classdict__" : Str)) = false) :
    PE X (.Name x pos) (tR X XC W fun ρ G => match ρ[i]? with
      | some (some d) => okV d G
      | _ => .bad) := PE.imp (pe_var hN hv hd hcd) fun σ H Q h => by
  obtain ⟨ι, ρ, G, hr, er, h⟩ := h
  dsimp only at h
  split at h
  · rename_i d e
    obtain ⟨v, e1, r1⟩ := er.2 i d e
    exact ⟨v, e1, h ι H v .refl hr r1⟩
  · exact h.elim
theorem x_glob {x : Str} {d : D} {v : V} {u : Value} (hg : Gl X x) (hm : X.mg x = some u) (r : L2.RelV v u) (hd : (x == ("__debug__" : Str)) = false) (hv : ∀ ι H, RV X.K ι H v d) : PE X (.Name x pos) (tR X XC W fun _ G => okV d G) :=
  PE.imp (pe_glob hg hm r hd) fun _ H _ h => tR_ok h fun ι => hv ι H
/-! ### operators -/
variable (hu : X.A.units + 150 < cLine)
include hu
theorem x_bin {op : Bop} (ha : PE X a (tR X XC W fa)) (hb : PE X b (tR X XC W fb)) : PE X (.BinOp a op.op b pos) (tR X XC W fun ρ G => (fa ρ G).bind fun x G1 => (fb ρ G1).bind fun y G2 => binR op x y G2) := by
  refine ⟨fun pins s σ H Q I ⟨ι, ρ, G, hr, er, h⟩ => ?_⟩
  refine wpAny_BinOp (thn (ha.run pins s σ H _ I (step hr er h)) fun v s1 ⟨x, H1, I1, r1, p, ι1, G1, f1, hr1, er1, q1, h1⟩ =>
    thn (hb.run pins s1 σ H1 _ I1 (step2 f1 hr1 er1 (backR f1 hr1) h1)) fun u s2 ⟨y, H2, I2, r2, q, ι2, G2, f2, hr2, er2, q2, h2⟩ => ?_)
  exact thn (bin_ok I2 hr2 r1 r2 (q1.go hr1 f2) q2 (h2.shift hr2 f2 (backR f2 hr2))) fun _ _ e => ep_of e
theorem x_neg (ha : PE X a (tR X XC W fa)) : PE X (.UnaryOp .USub a pos) (tR X XC W fun ρ G => (fa ρ G).bind fun x G1 => match x with
    | .val (.int i) => okV (.int (-i)) G1
    | _ => .bad) := by
  refine ⟨fun pins s σ H Q I ⟨ι, ρ, G, hr, er, h⟩ => ?_⟩
  refine UnaryOp_ (thn (ha.run pins s σ H _ I (step hr er h)) fun v s1 ⟨x, H1, I1, r1, p, ι1, G1, f1, hr1, er1, q1, h1⟩ => ?_)
  dsimp only at h1
  split at h1
  · cases rv_int q1
    exact un_neg pins s1 σ H1 _ v Q I1 r1 ⟨_, rfl, h1 ι1 H1 _ f1 hr1 (.int _)⟩
  · exact h1.elim
theorem x_cmp {op : Cop} (hm : behindInMarks op.op b = false) (ha : PE X a (tR X XC W fa)) (hb : PE X b (tR X XC W fb)) : PE X (.Compare a [op.op] [b] pos) (tR X XC W fun ρ G => (fa ρ G).bind fun x G1 => (fb ρ G1).bind fun y G2 => optB (cmpR op x y G2) G2) := by
  refine ⟨fun pins s σ H Q I ⟨ι, ρ, G, hr, er, h⟩ => ?_⟩
  refine wpAny_Compare1 (thn (ha.run pins s σ H _ I (step hr er h)) fun v s1 ⟨x, H1, I1, r1, p, ι1, G1, f1, hr1, er1, q1, h1⟩ =>
    thn (hb.run pins s1 σ H1 _ I1 (step2 f1 hr1 er1 (backR f1 hr1) h1)) fun u s2 ⟨y, H2, I2, r2, q, ι2, G2, f2, hr2, er2, q2, h2⟩ => ?_) hm
  dsimp only at h2
  cases e : cmpR op p q G2 with
  | none => rw [e] at h2; exact h2.elim
  | some k =>
    rw [e] at h2
    exact cmp_ok hu I2 hr2 r1 r2 (q1.go hr1 f2) q2 e (h2 ι2 H2 (.bl k) f2 hr2 (.bl k))
theorem t_cmp {op : Cop} (hm : behindInMarks op.op b = false) (ha : PE X a (tR X XC W fa)) (hb : PE X b (tR X XC W fb)) : PT X (.Compare a [op.op] [b] pos) (tT X XC W fun ρ G => (fa ρ G).bind fun x G1 => (fb ρ G1).bind fun y G2 => optB (cmpR op x y G2) G2) := by
  refine ⟨fun pins s σ H Q I ⟨ι, ρ, G, hr, er, h⟩ => ?_⟩
  have h' : Post X.prog X.w X.K RelB XC W ι H (fun _ _ _ H' v => Q v H') ((fa ρ G).bind fun x G1 => (fb ρ G1).bind fun y G2 => (optB (cmpR op x y G2) G2).bind asB) := by
    cases e1 : fa ρ G with
    | ok x G1 =>
      simp only [e1, Res.bind] at h ⊢
      cases e2 : fb ρ G1 <;> simp only [e2] at h ⊢ <;> exact h
    | ex _ _ _ => simp only [e1, Res.bind] at h ⊢; exact h
    | bad => simp only [e1, Res.bind] at h ⊢; exact h
  refine wpAny_isTrue_Compare1 (thn (ha.run pins s σ H _ I (step hr er h')) fun v s1 ⟨x, H1, I1, r1, p, ι1, G1, f1, hr1, er1, q1, h1⟩ =>
    thn (hb.run pins s1 σ H1 _ I1 (step2 f1 hr1 er1 (fun _ _ _ _ q => q) h1)) fun u s2 ⟨y, H2, I2, r2, q, ι2, G2, f2, hr2, er2, q2, h2⟩ => ?_) hm
  dsimp only at h2
  cases e : cmpR op p q G2 with
  | none => rw [e] at h2; exact h2.elim
  | some k =>
    rw [e] at h2
    refine thn (cmp_ok (Q := fun v H' => v = .bl k ∧ H' = H2) hu I2 hr2 r1 r2 (q1.go hr1 f2) q2 e ⟨rfl, rfl⟩) fun c s3 ⟨z, H3, I3, r3, e1, e2⟩ => ?_
    subst e1 e2
    cases r3
    exact wpAny_truthy_bool ⟨H3, I3, h2 ι2 H3 k f2 hr2 rfl⟩
theorem x_chain {o p : Cop} (hm : lastMarks [o.op, p.op] [b, c] = false) (ha : PE X a (tR X XC W fa)) (hb : PE X b (tR X XC W fb)) (hc : PE X c (tR X XC W fc)) : PE X (.Compare a [o.op, p.op] [b, c] pos)
    (tR X XC W fun ρ G => (fa ρ G).bind fun x G1 => (fb ρ G1).bind fun y G2 => match cmpR o x y G2 with
    | some true => (fc ρ G2).bind fun z G3 => optB (cmpR p y z G3) G3
    | some false => okV (.bl false) G2
    | none => .bad) := by
  refine ⟨fun pins s σ H Q I ⟨ι, ρ, G, hr, er, h⟩ => ?_⟩
  refine Compare_chain (thn (ha.run pins s σ H _ I (step hr er h)) fun v s1 ⟨x, H1, I1, r1, rx, ι1, G1, f1, hr1, er1, q1, h1⟩ => chain_link (
    thn (hb.run pins s1 σ H1 _ I1 (step2 f1 hr1 er1 (backR f1 hr1) h1)) fun u s2 ⟨y, H2, I2, r2, ry, ι2, G2, f2, hr2, er2, q2, h2⟩ => ?_)) hm
  dsimp only at h2
  split at h2
  · rename_i e
    refine thn (cmp_ok (Q := fun v H' => v = .bl true ∧ H' = H2) hu I2 hr2 r1 r2 (q1.go hr1 f2) q2 e ⟨rfl, rfl⟩) fun d s3 ⟨z, H3, I3, r3, e1, e2⟩ => ?_
    subst e1 e2
    cases r3
    refine wpAny_truthy_bool (ite_tt (chain_last (thn (hc.run pins s3 σ H3 _ I3 (step2 f2 hr2 er2 (backR f2 hr2) h2)) fun w' s4 ⟨z', H4, I4, r4, rz, ι4, G4, f4, hr4, er4, q4, h4⟩ => ?_)))
    dsimp only at h4
    cases e : cmpR p ry rz G4 with
    | none => rw [e] at h4; exact h4.elim
    | some k =>
      rw [e] at h4
      exact cmp_ok hu I4 hr4 r2 r4 (q2.go hr2 f4) q4 e (h4 ι4 H4 (.bl k) f4 hr4 (.bl k))
  · rename_i e
    refine thn (cmp_ok (Q := fun v H' => v = .bl false ∧ H' = H2) hu I2 hr2 r1 r2 (q1.go hr1 f2) q2 e ⟨rfl, rfl⟩) fun d s3 ⟨z, H3, I3, r3, e1, e2⟩ => ?_
    subst e1 e2
    cases r3
    exact wpAny_truthy_bool (ite_ff ⟨.bl false, H3, I3, rfl, h2 ι2 H3 _ f2 hr2 (.bl false)⟩)
  · exact h2.elim
omit hu
/-- the value of a bool, as a test -/
theorem t_val {e : Expr} {f : Env → Hpp → Res R} (h : PE X e (tR X XC W f)) (he : ∀ whole, isTrue e X.env whole = (do let v ← whole; standAt e.pos; holding [v] (truthy v))) : PT X e (tT X XC W f) := by
  refine ⟨fun pins s σ H Q I ⟨ι, ρ, G, hr, er, hq⟩ => ?_⟩
  refine isTrue_plain (thn (h.run pins s σ H _ I (step hr er hq)) fun v s1 ⟨x, H1, I1, r1, p, ι1, G1, f1, hr1, er1, q1, h1⟩ => ?_) (he _)
  unfold asB at h1
  split at h1
  · cases rv_bl q1
    cases r1
    exact wpAny_truthy_bool ⟨H1, I1, h1 ι1 H1 _ f1 hr1 rfl⟩
  · exact h1.elim
def andF (fa fb : Env → Hpp → Res R) (ρ : Env) (G : Hpp) : Res R := (fa ρ G).bind fun x G1 => match x with
  | .val (.bl true) => fb ρ G1
  | .val (.bl false) => okV (.bl false) G1
  | _ => .bad
def orF (fa fb : Env → Hpp → Res R) (ρ : Env) (G : Hpp) : Res R := (fa ρ G).bind fun x G1 => match x with
  | .val (.bl true) => okV (.bl true) G1
  | .val (.bl false) => fb ρ G1
  | _ => .bad
def notF (fa : Env → Hpp → Res R) (ρ : Env) (G : Hpp) : Res R := (fa ρ G).bind fun x G1 => match x with
  | .val (.bl b) => okV (.bl (!b)) G1
  | _ => .bad
theorem andF_B (ρ : Env) (G : Hpp) : (andF fa fb ρ G).bind asB = ((fa ρ G).bind asB).bind fun c G1 => if c = true then (fb ρ G1).bind asB else .ok false G1 := by
  unfold andF
  cases fa ρ G with
  | ok x G1 =>
    simp only [Res.bind]
    cases x with
    | val d => cases d <;> (try rename_i z; cases z) <;> simp [asB, okV] <;> rfl
    | _ => rfl
  | ex _ _ _ => rfl
  | bad => rfl
theorem orF_B (ρ : Env) (G : Hpp) : (orF fa fb ρ G).bind asB = ((fa ρ G).bind asB).bind fun c G1 => if c = true then .ok true G1 else (fb ρ G1).bind asB := by
  unfold orF
  cases fa ρ G with
  | ok x G1 =>
    simp only [Res.bind]
    cases x with
    | val d => cases d <;> (try rename_i z; cases z) <;> simp [asB, okV] <;> rfl
    | _ => rfl
  | ex _ _ _ => rfl
  | bad => rfl
theorem notF_B (ρ : Env) (G : Hpp) : (notF fa ρ G).bind asB = ((fa ρ G).bind asB).bind fun c G1 => .ok (!c) G1 := by
  unfold notF
  cases fa ρ G with
  | ok x G1 =>
    simp only [Res.bind]
    cases x with
    | val d => cases d <;> simp [asB, okV] <;> rfl
    | _ => rfl
  | ex _ _ _ => rfl
  | bad => rfl
/-- the steps of a test -/
theorem stepT {f : Env → Hpp → Res R} {QQ : γ → List Addr → Hpp → Hp → δ → Prop} {k : Bool → Hpp → Res γ} (hr : HR X.prog X.w X.K ι G H) (er : ER X.K ι H σ ρ) (h : Post X.prog X.w X.K Rel2 XC W ι H QQ (((f ρ G).bind asB).bind k)) :
    tT X XC W f σ H (Nxt X XC W RelB Rel2 σ ρ ι H QQ k) := step (f := fun ρ G => (f ρ G).bind asB) hr er h
theorem w_and1 (ha : PT X a (tT X XC W fa)) : PW X (.BoolOp .And [a] pos) (tT X XC W fa) := pw_and1 ha
theorem w_or1 (ha : PT X a (tT X XC W fa)) : PW X (.BoolOp .Or [a] pos) (tT X XC W fa) := pw_or1 ha
theorem PW.imp {e : Expr} {t t' : TT} (h : PW X e t) (hi : ∀ σ H Q, t' σ H Q → t σ H Q) : PW X e t' := ⟨fun wh pins s σ H Q I q => h.run wh pins s σ H Q I (hi σ H Q q)⟩
theorem PT.imp {e : Expr} {t t' : TT} (h : PT X e t) (hi : ∀ σ H Q, t' σ H Q → t σ H Q) : PT X e t' := ⟨fun pins s σ H Q I q => h.run pins s σ H Q I (hi σ H Q q)⟩
theorem w_and {e : Expr} {rest : List Expr} (ha : PT X a (tT X XC W fa)) (hb : PW X (.BoolOp .And (e :: rest) pos) (tT X XC W fb)) : PW X (.BoolOp .And (a :: e :: rest) pos) (tT X XC W (andF fa fb)) :=
  PW.imp (pw_and ha hb) fun σ H Q ⟨ι, ρ, G, hr, er, h⟩ => by
    dsimp only at h
    rw [andF_B] at h
    obtain ⟨ι', ρ', G', hr', er', h'⟩ := stepT hr er h
    refine ⟨ι', ρ', G', hr', er', h'.imp fun b ι1 G1 H1 c ⟨b', ι2, G2, f2, hr2, er2, e2, h2⟩ => ?_⟩
    subst e2
    by_cases hc : c = true
    · subst hc
      exact ⟨ι2, ρ, G2, hr2, er2, h2.shift hr2 f2 fun _ _ _ _ q => q⟩
    · have hc' : c = false := by simpa using hc
      subst hc'
      exact h2 ι2 H1 false f2 hr2 rfl
theorem w_or {e : Expr} {rest : List Expr} (ha : PT X a (tT X XC W fa)) (hb : PW X (.BoolOp .Or (e :: rest) pos) (tT X XC W fb)) : PW X (.BoolOp .Or (a :: e :: rest) pos) (tT X XC W (orF fa fb)) :=
  PW.imp (pw_or ha hb) fun σ H Q ⟨ι, ρ, G, hr, er, h⟩ => by
    dsimp only at h
    rw [orF_B] at h
    obtain ⟨ι', ρ', G', hr', er', h'⟩ := stepT hr er h
    refine ⟨ι', ρ', G', hr', er', h'.imp fun b ι1 G1 H1 c ⟨b', ι2, G2, f2, hr2, er2, e2, h2⟩ => ?_⟩
    subst e2
    by_cases hc : c = true
    · subst hc
      exact h2 ι2 H1 true f2 hr2 rfl
    · have hc' : c = false := by simpa using hc
      subst hc'
      exact ⟨ι2, ρ, G2, hr2, er2, h2.shift hr2 f2 fun _ _ _ _ q => q⟩
theorem t_not (ha : PT X a (tT X XC W fa)) : PT X (.UnaryOp .Not a pos) (tT X XC W (notF fa)) :=
  PT.imp (pt_not ha) fun σ H Q ⟨ι, ρ, G, hr, er, h⟩ => by
    dsimp only at h
    rw [notF_B] at h
    obtain ⟨ι', ρ', G', hr', er', h'⟩ := stepT hr er h
    refine ⟨ι', ρ', G', hr', er', h'.imp fun b ι1 G1 H1 c ⟨b', ι2, G2, f2, hr2, er2, e2, h2⟩ => ?_⟩
    subst e2
    exact h2 ι2 H1 _ f2 hr2 rfl
theorem x_not (ha : PE X a (tR X XC W fa)) : PE X (.UnaryOp .Not a pos) (tR X XC W (notF fa)) :=
  PE.imp (pe_not ha) fun σ H Q ⟨ι, ρ, G, hr, er, h⟩ => by
    obtain ⟨ι', ρ', G', hr', er', h'⟩ := step (Rel := RR X.prog X.w X.K) hr er h
    refine ⟨ι', ρ', G', hr', er', h'.imp fun b ι1 G1 H1 c ⟨x, ι2, G2, f2, hr2, er2, e2, h2⟩ => ?_⟩
    dsimp only at h2
    split at h2
    · cases rv_bl e2
      exact ⟨_, rfl, h2 ι2 H1 _ f2 hr2 (.bl _)⟩
    · exact h2.elim
theorem x_and {e : Expr} {rest : List Expr} (ha : PE X a (tR X XC W fa)) (hb : PE X (.BoolOp .And (e :: rest) pos) (tR X XC W fb)) : PE X (.BoolOp .And (a :: e :: rest) pos) (tR X XC W (andF fa fb)) :=
  PE.imp (pe_and ha hb) fun σ H Q ⟨ι, ρ, G, hr, er, h⟩ => by
    obtain ⟨ι', ρ', G', hr', er', h'⟩ := step (Rel := RR X.prog X.w X.K) hr er h
    refine ⟨ι', ρ', G', hr', er', h'.imp fun b ι1 G1 H1 c ⟨x, ι2, G2, f2, hr2, er2, e2, h2⟩ => ?_⟩
    dsimp only at h2
    split at h2
    · cases rv_bl e2
      exact ⟨_, rfl, by rw [if_pos rfl]; exact ⟨ι2, ρ, G2, hr2, er2, h2.shift hr2 f2 (backR f2 hr2)⟩⟩
    · cases rv_bl e2
      exact ⟨_, rfl, by rw [if_neg Bool.false_ne_true]; exact h2 ι2 H1 _ f2 hr2 (.bl _)⟩
    · exact h2.elim
theorem x_or {e : Expr} {rest : List Expr} (ha : PE X a (tR X XC W fa)) (hb : PE X (.BoolOp .Or (e :: rest) pos) (tR X XC W fb)) : PE X (.BoolOp .Or (a :: e :: rest) pos) (tR X XC W (orF fa fb)) :=
  PE.imp (pe_or ha hb) fun σ H Q ⟨ι, ρ, G, hr, er, h⟩ => by
    obtain ⟨ι', ρ', G', hr', er', h'⟩ := step (Rel := RR X.prog X.w X.K) hr er h
    refine ⟨ι', ρ', G', hr', er', h'.imp fun b ι1 G1 H1 c ⟨x, ι2, G2, f2, hr2, er2, e2, h2⟩ => ?_⟩
    dsimp only at h2
    split at h2
    · cases rv_bl e2
      exact ⟨_, rfl, by rw [if_pos rfl]; exact h2 ι2 H1 _ f2 hr2 (.bl _)⟩
    · cases rv_bl e2
      exact ⟨_, rfl, by rw [if_neg Bool.false_ne_true]; exact ⟨ι2, ρ, G2, hr2, er2, h2.shift hr2 f2 (backR f2 hr2)⟩⟩
    · exact h2.elim
theorem iteF_B {f : Env → Hpp → Res R} (ρ : Env) (G : Hpp) : ((f ρ G).bind fun x G1 => match x with
    | .val (.bl true) => fa ρ G1
    | .val (.bl false) => fb ρ G1
    | _ => .bad) = ((f ρ G).bind asB).bind fun c G1 => if c = true then fa ρ G1 else fb ρ G1 := by
  cases f ρ G with
  | ok x G1 =>
    simp only [Res.bind]
    cases x with
    | val d => cases d <;> (try rename_i z; cases z) <;> simp [asB]
    | _ => rfl
  | ex _ _ _ => rfl
  | bad => rfl
theorem x_ite {t : Expr} {f : Env → Hpp → Res R} (ht : PT X t (tT X XC W f)) (ha : PE X a (tR X XC W fa)) (hb : PE X b (tR X XC W fb)) : PE X (.IfExp t a b pos) (tR X XC W fun ρ G => (f ρ G).bind fun x G1 => match x with
    | .val (.bl true) => fa ρ G1
    | .val (.bl false) => fb ρ G1
    | _ => .bad) :=
  PE.imp (pe_ifExp ht ha hb) fun σ H Q ⟨ι, ρ, G, hr, er, h⟩ => by
    dsimp only at h
    rw [iteF_B] at h
    obtain ⟨ι', ρ', G', hr', er', h'⟩ := stepT hr er h
    refine ⟨ι', ρ', G', hr', er', h'.imp fun b ι1 G1 H1 c ⟨b', ι2, G2, f2, hr2, er2, e2, h2⟩ => ?_⟩
    subst e2
    dsimp only at h2
    by_cases hc : c = true
    · rw [if_pos hc] at h2 ⊢
      exact ⟨ι2, ρ, G2, hr2, er2, h2.shift hr2 f2 (backR f2 hr2)⟩
    · rw [if_neg hc] at h2 ⊢
      exact ⟨ι2, ρ, G2, hr2, er2, h2.shift hr2 f2 (backR f2 hr2)⟩
end
end LK

set_option Elab.async false
set_option linter.all false
set_option autoImplicit false
set_option maxRecDepth 100000
set_option maxHeartbeats 4000000
/-! LkExp2: arguments, displays, subscripts, calls. -/
namespace LK
open PySem PySem.Spec PyProof.Rows L2
theorem Res.bind_assoc {α β γ : Type} (r : Res α) (f : α → Hpp → Res β) (g : β → Hpp → Res γ) : (r.bind f).bind g = r.bind fun a G => (f a G).bind g := by
  cases r <;> rfl
section
variable {X : Cx} {XC : XCT} {W : WT} {α β γ δ : Type} {Rel : Hp → List Addr → Hp → β → α → Prop} {Rel2 : Hp → List Addr → Hp → δ → γ → Prop}
  {pins : List (Addr × Obj)} {σ : L2.St} {s : Shared} {ι : List Addr} {ρ : Env} {G : Hpp} {H : Hp}
theorem ER.up {ι' : List Addr} (up : ∀ {v : V} {d : D}, RV X.K ι H v d → RV X.K ι' H v d) (er : ER X.K ι H σ ρ) : ER X.K ι' H σ ρ := ⟨er.1, fun i d h => let ⟨v, h1, h2⟩ := er.2 i d h; ⟨v, h1, up h2⟩⟩
/-- a value is read and bound -/
theorem stepD {f : Env → Hpp → Res R} {QQ : γ → List Addr → Hpp → Hp → δ → Prop} {k : D → Hpp → Res γ} (hr : HR X.prog X.w X.K ι G H) (er : ER X.K ι H σ ρ) (h : Post X.prog X.w X.K Rel2 XC W ι H QQ (((f ρ G).bind toD).bind k)) :
    tR X XC W f σ H (Nxt X XC W (RelD X.K) Rel2 σ ρ ι H QQ k) := by
  rw [Res.bind_assoc] at h
  obtain ⟨ι', ρ', G', hr', er', h'⟩ := step (Rel := RR X.prog X.w X.K) hr er h
  refine ⟨ι', ρ', G', hr', er', h'.imp fun r ι1 G1 H1 v ⟨r', ι2, G2, f2, hr2, er2, q2, h2⟩ => ?_⟩
  obtain ⟨d, G3, ι3, e3, hr3, q3, p3, n3, up, _, _⟩ := bindD hr2 q2
  dsimp only at h2
  rw [e3] at h2
  exact ⟨d, ι3, G3, f2.bound p3 n3, hr3, ER.up up er2, q3, h2⟩
theorem stepD2 {f : Env → Hpp → Res R} {QQ : γ → List Addr → Hpp → Hp → δ → Prop} {k : D → Hpp → Res γ} {ι1 : List Addr} {G1 : Hpp} {H1 : Hp} (fr : Fr2 ι H ι1 H1) (hr : HR X.prog X.w X.K ι1 G1 H1) (er : ER X.K ι1 H1 σ ρ)
    (hb : ∀ ι2 H2 v a, Rel2 H1 ι2 H2 v a → Rel2 H ι2 H2 v a) (h : Post X.prog X.w X.K Rel2 XC W ι H QQ (((f ρ G1).bind toD).bind k)) : tR X XC W f σ H1 (Nxt X XC W (RelD X.K) Rel2 σ ρ ι1 H1 QQ k) :=
  stepD hr er (h.shift hr fr hb)
variable {a b c e : Expr} {es : List Expr} {fa fb fc : Env → Hpp → Res R} {fs : Env → Hpp → Res (List D)} {pos : Pos}
theorem PA.imp {es : List Expr} {t t' : TA} (h : PA X es t) (hi : ∀ σ H Q, t' σ H Q → t σ H Q) : PA X es t' := ⟨fun p pins s σ H Q I q => h.run p pins s σ H Q I (hi σ H Q q)⟩
theorem a_nil : PA X [] (tA X XC W fun _ G => .ok [] G) := PA.imp pa_nil fun σ H Q ⟨ι, ρ, G, hr, er, h⟩ => h ι H [] .refl hr .nil
theorem a_cons (ha : PE X e (tR X XC W fa)) (hs : PA X es (tA X XC W fs)) (hst : starEach (e :: es) X.env = (false, eval e X.env) :: starEach es X.env) :
    PA X (e :: es) (tA X XC W fun ρ G => ((fa ρ G).bind toD).bind fun d G1 => (fs ρ G1).bind fun ds G2 => .ok (d :: ds) G2) :=
  PA.imp (pa_cons ha hs hst) fun σ H Q ⟨ι, ρ, G, hr, er, h⟩ => by
    obtain ⟨ι', ρ', G', hr', er', h'⟩ := stepD hr er h
    refine ⟨ι', ρ', G', hr', er', h'.imp fun r ι1 G1 H1 v ⟨d, ι2, G2, f2, hr2, er2, q2, h2⟩ => ?_⟩
    obtain ⟨ι3, ρ3, G3, hr3, er3, h3⟩ := step2 (Rel := RelL X.K) f2 hr2 er2 (fun _ _ _ _ q => q) h2
    refine ⟨ι3, ρ3, G3, hr3, er3, h3.imp fun r ι4 G4 H4 vs ⟨ds, ι5, G5, f5, hr5, er5, q5, h5⟩ => ?_⟩
    exact h5 ι5 H4 (v :: vs) f5 hr5 (.cons (RV.go hr2 f5 q2) q5)
theorem x_tup {k : Nat} (hs : PA X es (tA X XC W fs)) (hl : es.length ≤ 1000) (hf : ∀ ρ G ds G', fs ρ G = .ok ds G' → ds.length = es.length) : PE X (.Tuple es k pos) (tR X XC W fun ρ G => (fs ρ G).bind fun ds G1 => okV (.tup ds) G1) :=
  PE.imp (pe_tup hs) fun σ H Q ⟨ι, ρ, G, hr, er, h⟩ => by
    cases e : fs ρ G with
    | ok ds G1 =>
      dsimp only at h
      rw [e] at h
      refine ⟨ι, ρ, G, hr, er, ?_⟩
      rw [e]
      refine fun ι1 H1 vs f1 hr1 q1 => ⟨?_, fun p hp => ?_⟩
      · rw [RVs.length q1, hf ρ G ds G1 e]; exact Nat.le_trans hl (by rw [sizeLine_eq]; decide)
      · exact h ι1 (upd H1 p (.tup vs)) (.ref p) (f1.trans hr1 (Fr2.laid hp)) (hr1.laid hp) (.tup (SqT.of upd_same) (q1.go hr1 (Fr2.laid hp)))
    | ex _ _ _ =>
      dsimp only at h
      rw [e] at h
      exact ⟨ι, ρ, G, hr, er, by rw [e]; exact h⟩
    | bad =>
      dsimp only at h
      rw [e] at h
      exact h.elim
theorem x_lst (hs : PA X es (tA X XC W fs)) (hl : es.length ≤ 1000) (hf : ∀ ρ G ds G', fs ρ G = .ok ds G' → ds.length = es.length) : PE X (.List es pos) (tR X XC W fun ρ G => (fs ρ G).bind fun ds G1 => .ok (.newL ds) G1) :=
  PE.imp (pe_lst hs) fun σ H Q ⟨ι, ρ, G, hr, er, h⟩ => by
    cases e : fs ρ G with
    | ok ds G1 =>
      dsimp only at h
      rw [e] at h
      refine ⟨ι, ρ, G, hr, er, ?_⟩
      rw [e]
      refine fun ι1 H1 vs f1 hr1 q1 => ⟨?_, fun p hp => ?_⟩
      · rw [RVs.length q1, hf ρ G ds G1 e]; exact Nat.le_trans hl (by rw [sizeLine_eq]; decide)
      · exact h ι1 (upd H1 p (.lst vs)) (.ref p) (f1.trans hr1 (Fr2.laid hp)) (hr1.laid hp) ⟨p, vs, rfl, upd_same, q1.go hr1 (Fr2.laid hp), f1.back hr1 hp, hr1.notin hp⟩
    | ex _ _ _ =>
      dsimp only at h
      rw [e] at h
      exact ⟨ι, ρ, G, hr, er, by rw [e]; exact h⟩
    | bad =>
      dsimp only at h
      rw [e] at h
      exact h.elim
theorem x_dnew {t : Bool} : PE X (.Dict [] [] pos) (tR X XC W fun _ G => .ok (.newD t []) G) := by
  refine ⟨fun pins s σ H Q I ⟨ι, ρ, G, hr, er, h⟩ => ?_⟩
  have hf : H s.heap.objs.size = none := I.hok.fresh (Nat.le_refl _)
  cases t with
  | false =>
    refine wpAny_Dict_empty ⟨.ref s.heap.objs.size, _, I.laid (a := s.heap.objs.size) (o := .dK []) (t' := s.toks) (fun _ _ q => Heap.get?_push_of_some _ q) (Nat.le_refl _) (dk_empty s.heap I.big), rfl, ?_⟩
    exact h ι _ _ (Fr2.laid hf) (hr.laid hf) ⟨_, rfl, ⟨[], upd_same, .nil⟩, hf, hr.notin hf⟩
  | true =>
    have hb : (s.heap.objs.size == sysModules) = false := beq_eq_false_iff_ne.mpr (Ne.symm (Nat.ne_of_lt I.big))
    refine wpAny_Dict_empty ⟨.ref s.heap.objs.size, _, I.laid (a := s.heap.objs.size) (o := DictOb X.prog X.w s.heap.objs.size []) (t' := s.toks) (fun _ _ q => Heap.get?_push_of_some _ q) (Nat.le_refl _)
      (dictOb_obj (xs := []) (es := #[]) (ep := 0) hb (Heap.get?_push_size _ rfl) ⟨rfl, rfl, rfl⟩ rfl rfl List.nodup_nil), rfl, ?_⟩
    exact h ι _ _ (Fr2.laid hf) (hr.laid hf) ⟨_, rfl, ⟨[], upd_same, Nat.zero_le _, .nil⟩, hf, hr.notin hf⟩
/-! ### subscripts, slices -/
variable (hu : X.A.units + 150 < cLine)
include hu
theorem x_idx (ha : PE X a (tR X XC W fa)) (hb : PE X b (tR X XC W fb)) (hs : PlainIx b) : PE X (.Subscript a b pos) (tR X XC W fun ρ G => (fa ρ G).bind fun x G1 => (fb ρ G1).bind fun y G2 => idxR x y G2) := by
  refine ⟨fun pins s σ H Q I ⟨ι, ρ, G, hr, er, h⟩ => ?_⟩
  refine Subscript_ (thn (ha.run pins s σ H _ I (step hr er h)) fun v s1 ⟨x, H1, I1, r1, p, ι1, G1, f1, hr1, er1, q1, h1⟩ =>
    thn (hb.run pins s1 σ H1 _ I1 (step2 f1 hr1 er1 (backR f1 hr1) h1)) fun u s2 ⟨y, H2, I2, r2, q, ι2, G2, f2, hr2, er2, q2, h2⟩ => ?_)
  exact thn (idx_ok hu I2 hr2 r1 r2 (q1.go hr1 f2) q2 (hs _ _) (h2.shift hr2 f2 (backR f2 hr2))) fun _ _ e => ep_of e
/-- a part of a slice -/
def RelO2 : Hp → List Addr → Hp → Option Int → Option Int → Prop := fun _ _ _ a b => a = b
abbrev tP (X : Cx) (XC : XCT) (W : WT) (f : Env → Hpp → Res (Option Int)) : TO := tX X XC W RelO2 f
omit hu in
theorem PO.imp {e : Option Expr} {t t' : TO} (h : PO X e t) (hi : ∀ σ H Q, t' σ H Q → t σ H Q) : PO X e t' := ⟨fun pins s σ H Q I q => h.run pins s σ H Q I (hi σ H Q q)⟩
omit hu in
theorem p_none : PO X none (tP X XC W fun _ G => .ok none G) := PO.imp po_none fun σ H Q ⟨ι, ρ, G, hr, er, h⟩ => h ι H none .refl hr rfl
omit hu in
theorem p_some (h : PE X e (tR X XC W fa)) : PO X (some e) (tP X XC W fun ρ G => (fa ρ G).bind fun r G1 => match r with
    | .val (.int i) => .ok (some i) G1
    | _ => .bad) := PO.imp (po_some h) fun σ H Q ⟨ι, ρ, G, hr, er, h⟩ => by
  obtain ⟨ι', ρ', G', hr', er', h'⟩ := step (Rel := RR X.prog X.w X.K) hr er h
  refine ⟨ι', ρ', G', hr', er', h'.imp fun b ι1 G1 H1 c ⟨x, ι2, G2, f2, hr2, er2, e2, h2⟩ => ?_⟩
  dsimp only at h2
  split at h2
  · cases rv_int e2
    exact ⟨_, rfl, h2 ι2 H1 _ f2 hr2 rfl⟩
  · exact h2.elim
omit hu in
theorem x_slc {lo hi : Option Expr} {fl fh : Env → Hpp → Res (Option Int)} {p2 : Pos} (ha : PE X a (tR X XC W fa)) (hl : PO X lo (tP X XC W fl)) (hh : PO X hi (tP X XC W fh)) :
    PE X (.Subscript a (.Slice lo hi none p2) pos) (tR X XC W fun ρ G => (fa ρ G).bind fun x G1 => (fl ρ G1).bind fun l G2 => (fh ρ G2).bind fun h G3 => cutR x l h G3) := by
  refine ⟨fun pins s σ H Q I ⟨ι, ρ, G, hr, er, h⟩ => ?_⟩
  refine Subscript_ (thn (ha.run pins s σ H _ I (step hr er h)) fun v s1 ⟨x, H1, I1, r1, p, ι1, G1, f1, hr1, er1, q1, h1⟩ => ?_)
  refine wpAny_Slice (thn (hl.run pins s1 σ H1 _ I1 (step2 f1 hr1 er1 (backR f1 hr1) h1)) fun vl s2 ⟨l, H2, I2, pl, l', ι2, G2, f2, hr2, er2, el, h2⟩ => thn (hh.run pins s2 σ H2 _ I2 (step2 f2 hr2 er2 (backR f2 hr2) h2)) fun vu s3 ⟨u, H3, I3, pu, u', ι3, G3, f3, hr3, er3, eu, h3⟩ => ?_)
  have el : l = l' := el
  have eu : u = u' := eu
  subst el eu
  rw [evalPart_none]
  refine wpAny_pure ?_
  have I4 : Inv X pins σ H3 { s3 with heap := s3.heap.push { cls := .type "slice", data := .fields #[vl, vu, .none] } } := I3.kept (t' := s3.toks) fun b ob q => Heap.get?_push_of_some _ q
  have q3 := (RR.go hr2 f3 (q1.go hr1 f2))
  obtain ⟨T, id, hT, ht, hg⟩ := slc_ok (sl := s3.heap.objs.size) I4 hr3 r1 q3 (Heap.IsSliceOf.new ..) pl pu (h3.shift hr3 f3 (backR f3 hr3))
  show wpAny (model X.prog X.w) X.A (subscriptTail a (.Slice lo hi none p2) v (.ref s3.heap.objs.size)) (EP X pins σ Q) X.xe { s3 with heap := s3.heap.push { cls := .type "slice", data := .fields #[vl, vu, .none] } }
  exact tail_any (ops := [.ref s3.heap.objs.size, v]) ht hT (thn hg fun _ _ e => ep_of e) (by with_unfolding_all rfl)
/-! ### built-ins by name -/
/-- the name is the built-in's -/
structure Blt (X : Cx) (x : Str) (v : Value) : Prop where
  gl : Gl X x
  mg : X.mg x = none
  bv : bootBuiltins x = some v
  nn : x ≠ "__name__"
  nd : (x == ("__debug__" : Str)) = false
/-- not starred -/
abbrev NoStar (X : Cx) (es : List Expr) : Prop := ∀ e r, es = e :: r → starEach (e :: r) X.env = (false, eval e X.env) :: starEach r X.env ∧ ∀ pos, (backTo pos (starEach r X.env)).any (·.1) = false
omit hu in
/-- id(a), id a built-in function or type -/
theorem x_blt1 {x : Str} {bv : Value} {p : Pos} {k : R → Hpp → Res R} (hb : Blt X x bv) (hid : (∃ id, bv = .builtin id) ∨ ∃ T, bv = .type T) (ha : PE X a (tR X XC W fa)) (hs : starEach [a] X.env = [(false, eval a X.env)])
    (hk : ∀ (pins : List (Addr × Obj)) (s : Shared) (σ : L2.St) (ι ι1 : List Addr) (G : Hpp) (H H1 : Hp) (y : V) (v : Value) (r : R) (QQ : R → List Addr → Hpp → Hp → V → Prop), Inv X pins σ H s → HR X.prog X.w X.K ι G H → L2.RelV y v → RR X.prog X.w X.K H1 ι H y r → PRes X XC W ι H QQ (k r G) →
      wpAny (model X.prog X.w) X.A (call bv [v]) (EP X pins σ (QV QQ)) X.xe s) :
    PE X (.Call (.Name x p) [a] [] pos) (tR X XC W fun ρ G => (fa ρ G).bind k) := by
  have run : ∀ (pins : List (Addr × Obj)) (σ : L2.St) (ι : List Addr) (ρ : Env) (H : Hp) (Q : VK), ∀ us s1, AP X pins σ (Nxt X XC W (RR X.prog X.w X.K) (RR X.prog X.w X.K) σ ρ ι H (fun _ _ _ H' v => Q v H') k ∘ fun vs => vs.headD .non) us s1 → (∃ u, us = [u]) → wpAny (model X.prog X.w) X.A (call bv us) (EP X pins σ Q) X.xe s1 := by
    rintro pins σ ι ρ H Q us s1 ⟨vs, H1, I1, r1, r, ι1, G1, f1, hr1, er1, q1, h1⟩ ⟨u, rfl⟩
    cases r1 with
    | cons r1 r2 =>
      cases r2
      exact thn (hk pins s1 σ ι1 ι1 G1 H1 H _ u r _ I1 hr1 r1 q1 (h1.shift hr1 f1 (backR f1 hr1))) fun _ _ e => ep_of e
  have args : ∀ (pins : List (Addr × Obj)) (s : Shared) (σ : L2.St) (ι : List Addr) (ρ : Env) (G : Hpp) (H : Hp) (Q : VK), Inv X pins σ H s → HR X.prog X.w X.K ι G H → ER X.K ι H σ ρ → Post X.prog X.w X.K (RR X.prog X.w X.K) XC W ι H (fun _ _ _ H' v => Q v H') ((fa ρ G).bind k) →
      wpAny (model X.prog X.w) X.A (spliced (backTo pos (starEach [a] X.env))) (fun us s1 => AP X pins σ (Nxt X XC W (RR X.prog X.w X.K) (RR X.prog X.w X.K) σ ρ ι H (fun _ _ _ H' v => Q v H') k ∘ fun vs => vs.headD .non) us s1 ∧ ∃ u, us = [u]) X.xe s := by
    intro pins s σ ι ρ G H Q I hr er h
    rw [hs]
    show wpAny _ _ (spliced ((false, eval a X.env) :: backTo pos [])) _ _ s
    refine Calls.spliced_cons (thn (ha.run pins s σ H _ I (step hr er h)) fun u s1 ⟨x, H1, I1, r1, q1⟩ => ?_)
    exact Calls.spliced_nil ⟨⟨[x], H1, I1, .cons r1 .nil, q1⟩, u, rfl⟩
  have e0 : starEach (a :: []) X.env = (false, eval a X.env) :: starEach [] X.env := hs
  have hpl : (backTo pos (starEach [] X.env)).any (·.1) = false := rfl
  refine ⟨fun pins s σ H Q I ⟨ι, ρ, G, hr, er, h⟩ => ?_⟩
  rcases hid with ⟨id, rfl⟩ | ⟨T, rfl⟩
  · refine wpAny_Call_Name_kw (ld_blt I hb.gl hb.mg hb.bv ?_ hb.nn hb.nd)
    exact PyProof.Rows.callWith_builtin1 (thn (args pins s σ ι ρ G H Q I hr er h) fun us s1 ⟨q, hu⟩ => run pins σ ι ρ H Q us s1 q hu) e0 hpl
  · refine wpAny_Call_Name_kw (ld_blt I hb.gl hb.mg hb.bv ?_ hb.nn hb.nd)
    exact PyProof.Rows.callWith_type1 (thn (args pins s σ ι ρ G H Q I hr er h) fun us s1 ⟨q, hu⟩ => run pins σ ι ρ H Q us s1 q hu) e0 hpl
omit hu in
theorem x_len {p : Pos} (hb : Blt X "len" (.builtin "len")) (ha : PE X a (tR X XC W fa)) (hs : starEach [a] X.env = [(false, eval a X.env)]) : PE X (.Call (.Name "len" p) [a] [] pos) (tR X XC W fun ρ G => (fa ρ G).bind lenR) :=
  x_blt1 hb (.inl ⟨_, rfl⟩) ha hs fun pins s σ ι ι1 G H H1 y v r QQ I hr rx q h => len_ok I hr rx q h
theorem x_seq {p : Pos} {b : Sb} {x : Str} (hc : X.calm = true) (hb : Blt X x b.val) (ha : PE X a (tR X XC W fa)) (hs : starEach [a] X.env = [(false, eval a X.env)]) : PE X (.Call (.Name x p) [a] [] pos) (tR X XC W fun ρ G => (fa ρ G).bind (seqR b)) :=
  x_blt1 hb (by cases b <;> first | exact .inl ⟨_, rfl⟩ | exact .inr ⟨_, rfl⟩) ha hs fun pins s σ ι ι1 G H H1 y v r QQ I hr rx q h => seqR_ok hu hc I hr rx q h
omit hu in
theorem x_abs {p : Pos} (hb : Blt X "abs" (.builtin "abs")) (ha : PE X a (tR X XC W fa)) (hs : starEach [a] X.env = [(false, eval a X.env)]) : PE X (.Call (.Name "abs" p) [a] [] pos) (tR X XC W fun ρ G => (fa ρ G).bind fun x G1 => match x with
    | .val (.int i) => okV (.int (if i < 0 then -i else i)) G1
    | _ => .bad) :=
  x_blt1 hb (.inl ⟨_, rfl⟩) ha hs fun pins s σ ι ι1 G H H1 y v r QQ I hr rx q h => by
    try dsimp only at h
    split at h
    · cases rv_int q
      exact call_abs pins s σ H [_] [v] _ I (.cons rx .nil) ⟨_, rfl, ok_val hr h (.int _)⟩
    · exact h.elim
omit hu in
theorem x_int1 {p : Pos} (hb : Blt X "int" (.type "int")) (ha : PE X a (tR X XC W fa)) (hs : starEach [a] X.env = [(false, eval a X.env)]) : PE X (.Call (.Name "int" p) [a] [] pos) (tR X XC W fun ρ G => (fa ρ G).bind fun x G1 => match x with
    | .val (.int i) => okV (.int i) G1
    | .val (.bl b) => okV (.int (if b then 1 else 0)) G1
    | _ => .bad) :=
  x_blt1 hb (.inr ⟨_, rfl⟩) ha hs fun pins s σ ι ι1 G H H1 y v r QQ I hr rx q h => by
    try dsimp only at h
    split at h
    · cases rv_int q
      exact call_int1 pins s σ H [_] [v] _ I (.cons rx .nil) (.inl ⟨_, rfl, ok_val hr h (.int _)⟩)
    · cases rv_bl q
      exact call_int1 pins s σ H [_] [v] _ I (.cons rx .nil) (.inr ⟨_, rfl, ok_val hr h (.int _)⟩)
    · exact h.elim
/-- id(a, b) -/
theorem x_blt2 {x : Str} {id : String} {p : Pos} {k : R → R → Hpp → Res R} (hb : Blt X x (.builtin id)) (ha : PE X a (tR X XC W fa)) (hb2 : PE X b (tR X XC W fb)) (hs : starEach [a, b] X.env = [(false, eval a X.env), (false, eval b X.env)]) (hs2 : starEach [b] X.env = [(false, eval b X.env)])
    (hk : ∀ (pins : List (Addr × Obj)) (s : Shared) (σ : L2.St) (ι : List Addr) (G : Hpp) (H H0 H1 : Hp) (y z : V) (v u : Value) (r q : R) (QQ : R → List Addr → Hpp → Hp → V → Prop), Inv X pins σ H s → HR X.prog X.w X.K ι G H → L2.RelV y v → L2.RelV z u → RR X.prog X.w X.K H0 ι H y r → RR X.prog X.w X.K H1 ι H z q → PRes X XC W ι H QQ (k r q G) →
      wpAny (model X.prog X.w) X.A (call (.builtin id) [v, u]) (EP X pins σ (QV QQ)) X.xe s) :
    PE X (.Call (.Name x p) [a, b] [] pos) (tR X XC W fun ρ G => (fa ρ G).bind fun x G1 => (fb ρ G1).bind fun y G2 => k x y G2) := by
  have e0 : starEach (a :: [b]) X.env = (false, eval a X.env) :: starEach [b] X.env := by rw [hs, hs2]
  have hpl : (backTo pos (starEach [b] X.env)).any (·.1) = false := by rw [hs2]; rfl
  refine ⟨fun pins s σ H Q I ⟨ι, ρ, G, hr, er, h⟩ => ?_⟩
  refine wpAny_Call_Name_kw (ld_blt I hb.gl hb.mg hb.bv ?_ hb.nn hb.nd)
  refine PyProof.Rows.callWith_builtin1 ?_ e0 hpl
  rw [hs]
  show wpAny _ _ (spliced ((false, eval a X.env) :: (false, eval b X.env) :: backTo pos [])) _ _ s
  refine Calls.spliced_cons (thn (ha.run pins s σ H _ I (step hr er h)) fun v s1 ⟨x, H1, I1, r1, rx, ι1, G1, f1, hr1, er1, q1, h1⟩ => ?_)
  refine Calls.spliced_cons (thn (hb2.run pins s1 σ H1 _ I1 (step2 f1 hr1 er1 (backR f1 hr1) h1)) fun u s2 ⟨y, H2, I2, r2, ry, ι2, G2, f2, hr2, er2, q2, h2⟩ => ?_)
  exact Calls.spliced_nil (thn (hk pins s2 σ ι2 G2 H2 H H1 x y v u rx ry _ I2 hr2 r1 r2 (q1.go hr1 f2) q2 (h2.shift hr2 f2 (backR f2 hr2))) fun _ _ e => ep_of e)
theorem x_min2 {p : Pos} (hc : X.calm = true) (hb : Blt X "min" (.builtin "min")) (ha : PE X a (tR X XC W fa)) (hb2 : PE X b (tR X XC W fb)) (hs : starEach [a, b] X.env = [(false, eval a X.env), (false, eval b X.env)]) (hs2 : starEach [b] X.env = [(false, eval b X.env)]) :
    PE X (.Call (.Name "min" p) [a, b] [] pos) (tR X XC W fun ρ G => (fa ρ G).bind fun x G1 => (fb ρ G1).bind fun y G2 => match x, y with
    | .val (.int i), .val (.int j) => okV (.int (if j < i then j else i)) G2
    | _, _ => .bad) :=
  x_blt2 (k := fun x y G2 => match x, y with
    | .val (.int i), .val (.int j) => okV (.int (if j < i then j else i)) G2
    | _, _ => .bad) hu hb ha hb2 hs hs2 fun pins s σ ι G H H0 H1 y z v u r q QQ I hr rx ry q1 q2 h => by
    try dsimp only at h
    split at h
    · cases rv_int q1; cases rv_int q2
      exact call_min2 hc pins s σ H [_, _] [v, u] _ I (.cons rx (.cons ry .nil)) ⟨_, _, rfl, ok_val hr h (.int _)⟩
    · exact h.elim
theorem x_max2 {p : Pos} (hc : X.calm = true) (hb : Blt X "max" (.builtin "max")) (ha : PE X a (tR X XC W fa)) (hb2 : PE X b (tR X XC W fb)) (hs : starEach [a, b] X.env = [(false, eval a X.env), (false, eval b X.env)]) (hs2 : starEach [b] X.env = [(false, eval b X.env)]) :
    PE X (.Call (.Name "max" p) [a, b] [] pos) (tR X XC W fun ρ G => (fa ρ G).bind fun x G1 => (fb ρ G1).bind fun y G2 => match x, y with
    | .val (.int i), .val (.int j) => okV (.int (if j > i then j else i)) G2
    | _, _ => .bad) :=
  x_blt2 (k := fun x y G2 => match x, y with
    | .val (.int i), .val (.int j) => okV (.int (if j > i then j else i)) G2
    | _, _ => .bad) hu hb ha hb2 hs hs2 fun pins s σ ι G H H0 H1 y z v u r q QQ I hr rx ry q1 q2 h => by
    try dsimp only at h
    split at h
    · cases rv_int q1; cases rv_int q2
      exact call_max2 hc pins s σ H [_, _] [v, u] _ I (.cons rx (.cons ry .nil)) ⟨_, _, rfl, ok_val hr h (.int _)⟩
    · exact h.elim
omit hu in
/-- isinstance(a, T) -/
theorem x_isi {p pt : Pos} {t : Ty} {tn : Str} (hb : Blt X "isinstance" (.builtin "isinstance")) (ht : Blt X tn (.type t.nm)) (ha : PE X a (tR X XC W fa)) (hs : starEach [a, .Name tn pt] X.env = [(false, eval a X.env), (false, eval (.Name tn pt) X.env)]) :
    PE X (.Call (.Name "isinstance" p) [a, .Name tn pt] [] pos) (tR X XC W fun ρ G => (fa ρ G).bind fun x G1 => optB (isiR x t G1) G1) := by
  have hs2 : starEach [.Name tn pt] X.env = [(false, eval (.Name tn pt) X.env)] := rfl
  have e0 : starEach (a :: [.Name tn pt]) X.env = (false, eval a X.env) :: starEach [.Name tn pt] X.env := by rw [hs, hs2]
  have hpl : (backTo pos (starEach [.Name tn pt] X.env)).any (·.1) = false := by rw [hs2]; rfl
  refine ⟨fun pins s σ H Q I ⟨ι, ρ, G, hr, er, h⟩ => ?_⟩
  refine wpAny_Call_Name_kw (ld_blt I hb.gl hb.mg hb.bv ?_ hb.nn hb.nd)
  refine PyProof.Rows.callWith_builtin1 ?_ e0 hpl
  rw [hs]
  show wpAny _ _ (spliced ((false, eval a X.env) :: (false, eval (.Name tn pt) X.env) :: backTo pos [])) _ _ s
  refine Calls.spliced_cons (thn (ha.run pins s σ H _ I (step hr er h)) fun v s1 ⟨x, H1, I1, r1, rx, ι1, G1, f1, hr1, er1, q1, h1⟩ => ?_)
  refine Calls.spliced_cons (ld_blt I1 ht.gl ht.mg ht.bv (Calls.spliced_nil ?_) ht.nn ht.nd)
  try dsimp only at h1
  cases e : isiR rx t G1 with
  | none => rw [e] at h1; exact h1.elim
  | some k =>
    rw [e] at h1
    exact isi_ok I1 hr1 r1 q1 e (h1 ι1 H1 (.bl k) f1 hr1 (.bl k))
end
end LK

set_option Elab.async false
set_option linter.all false
set_option autoImplicit false
set_option maxRecDepth 100000
set_option maxHeartbeats 4000000
/-! LkExp3: calls of defs, methods, list(range(..)). -/
namespace LK
open PySem PySem.Spec PyProof.Rows L2
/-- what a def promises: what its function in the language gives -/
def spL (P : Program) (w : World) (K : PySem.W.Frag) (XC : XCT) (CF : CallF) (f : Str) (np : Nat) : Sp := fun vs H Q E =>
  ∃ ι G ds, HR P w K ι G H ∧ RVs K ι H vs ds ∧ vs.length = np ∧ Post P w K (RelD K) XC E ι H (fun _ _ _ H' v => Q v H') (CF f ds G)
section
variable {X : Cx} {XC : XCT} {W : WT} {α β γ δ : Type} {Rel : Hp → List Addr → Hp → β → α → Prop} {Rel2 : Hp → List Addr → Hp → δ → γ → Prop}
  {pins : List (Addr × Obj)} {σ : L2.St} {s : Shared} {ι : List Addr} {ρ : Env} {G : Hpp} {H : Hp}
variable {a b c e : Expr} {es : List Expr} {fa fb fc : Env → Hpp → Res R} {fs gs : Env → Hpp → Res (List D)} {pos : Pos}
theorem PK.imp {kws : List Keyword} {t t' : TA} (h : PK X kws t) (hi : ∀ σ H Q, t' σ H Q → t σ H Q) : PK X kws t' := ⟨fun p pins s σ H Q I q => h.run p pins s σ H Q I (hi σ H Q q)⟩
theorem k_nil : PK X [] (tA X XC W fun _ G => .ok [] G) := PK.imp pk_nil fun σ H Q ⟨ι, ρ, G, hr, er, h⟩ => h ι H [] .refl hr .nil
theorem k_cons {kws : List Keyword} {nm : Option Str} {kpos : Pos} (ha : PE X e (tR X XC W fa)) (hs : PK X kws (tA X XC W fs)) :
    PK X (⟨nm, e, kpos⟩ :: kws) (tA X XC W fun ρ G => ((fa ρ G).bind toD).bind fun d G1 => (fs ρ G1).bind fun ds G2 => .ok (d :: ds) G2) :=
  PK.imp (pk_cons ha hs) fun σ H Q ⟨ι, ρ, G, hr, er, h⟩ => by
    obtain ⟨ι', ρ', G', hr', er', h'⟩ := stepD hr er h
    refine ⟨ι', ρ', G', hr', er', h'.imp fun r ι1 G1 H1 v ⟨d, ι2, G2, f2, hr2, er2, q2, h2⟩ => ?_⟩
    obtain ⟨ι3, ρ3, G3, hr3, er3, h3⟩ := step2 (Rel := RelL X.K) f2 hr2 er2 (fun _ _ _ _ q => q) h2
    refine ⟨ι3, ρ3, G3, hr3, er3, h3.imp fun r ι4 G4 H4 vs ⟨ds, ι5, G5, f5, hr5, er5, q5, h5⟩ => ?_⟩
    exact h5 ι5 H4 (v :: vs) f5 hr5 (.cons (RV.go hr2 f5 q2) q5)
theorem post_val {QQ : R → List Addr → Hpp → Hp → V → Prop} {r : Res D} (h : Post X.prog X.w X.K (RR X.prog X.w X.K) XC W ι H QQ (r.bind fun d G => okV d G)) : Post X.prog X.w X.K (RelD X.K) XC W ι H (fun d ι' G' H' v => QQ (.val d) ι' G' H' v) r := by
  cases r with
  | ok d G => exact h
  | ex _ _ _ => exact h
  | bad => exact h
/-- the keywords are all named -/
theorem named_all : ∀ {kws : List Keyword} {ks : List Str}, kws.map Keyword.arg = ks.map some → ∀ (env : PySem.Env) (pos : Pos), (backToKw pos (keywordEach kws env)).all (·.1.isSome) = true ∧ (backToKw pos (keywordEach kws env)).filterMap (·.1) = ks ∧ (backToKw pos (keywordEach kws env)).any (·.1.isNone) = false
  | [], [], _, _, _ => ⟨rfl, rfl, rfl⟩
  | [], _ :: _, h, _, _ => by simp at h
  | _ :: _, [], h, _, _ => by simp at h
  | ⟨nm, e, p⟩ :: kws, k :: ks, h, env, pos => by
    simp only [List.map_cons, List.cons.injEq] at h
    obtain ⟨h1, h2⟩ := h
    obtain ⟨i1, i2, i3⟩ := named_all h2 env pos
    subst h1
    have e1 : backToKw pos (keywordEach (⟨some k, e, p⟩ :: kws) env) = (some k, do let v ← eval e env; standAt pos; pure v) :: backToKw pos (keywordEach kws env) := rfl
    rw [e1]
    refine ⟨?_, ?_, ?_⟩
    · rw [List.all_cons, i1]; rfl
    · rw [List.filterMap_cons, i2]
    · rw [List.any_cons, i3]; rfl
/-- how a call of this shape binds -/
structure ShOk (K : PySem.W.Frag) (fd : FuncData) (ps : List Str) (n : Nat) (ks : List Str) (dd : List D) : Prop where
  to : ∃ (ds : List Value) (dvs : List V), Vals dvs ds ∧ (∀ ι H, RVs K ι H dvs dd) ∧ ∀ (s : Shared) (us ws : List Value), K.In s.heap → us.length = n → ws.length = ks.length → BindsTo s fd ⟨us, ks.zip ws⟩ (ps.zip (us ++ ws ++ ds))
  len : n + ks.length + dd.length = ps.length
theorem x_call {f : Str} {fp : Addr} {fd : FuncData} {ps ks : List Str} {CX : CXT} {k n : Nat} {CF : CallF} {dd : List D} {args : List Expr} {kws : List Keyword} {p : Pos}
    (F : FnOk X.prog X.w X.K X.mg X.base CX k fp fd ps (spL X.prog X.w X.K XC CF f ps.length)) (hr : Room k X.A) (hg : Gl X f) (hm : X.mg f = some (.ref fp)) (hk : PySem.W.keepIn X.K (.ref fp) = true) (hdb : (f == ("__debug__" : Str)) = false)
    (hb : ShOk X.K fd ps n ks dd) (hx : Passes CX X W) (ha : PA X args (tA X XC W fs)) (hkw : PK X kws (tA X XC W gs)) (hks : kws.map Keyword.arg = ks.map some) (hfs : ∀ ρ G ds G', fs ρ G = .ok ds G' → ds.length = n) (hgs : ∀ ρ G ds G', gs ρ G = .ok ds G' → ds.length = ks.length)
    (hst : ∀ e r, args = e :: r → starEach (e :: r) X.env = (false, eval e X.env) :: starEach r X.env) (hpl : ∀ pos, (backTo pos (starEach args X.env)).any (·.1) = false) (hnil : args = [] → fs = fun _ G => .ok [] G) :
    PE X (.Call (.Name f p) args kws pos) (tR X XC W fun ρ G => (fs ρ G).bind fun ds G1 => (gs ρ G1).bind fun zs G2 => (CF f (ds ++ zs ++ dd) G2).bind fun d G3 => okV d G3) := by
  obtain ⟨n1, n2, n3⟩ := named_all hks X.env pos
  have len1 : ∀ {ρ : Env} {G : Hpp} {QQ : R → List Addr → Hpp → Hp → V → Prop} {ι : List Addr} {H : Hp} {k : List D → Hpp → Res R}, Post X.prog X.w X.K (RR X.prog X.w X.K) XC W ι H QQ ((fs ρ G).bind k) → Post X.prog X.w X.K (RR X.prog X.w X.K) XC W ι H QQ ((fs ρ G).bind fun ds G1 => if ds.length = n then k ds G1 else .bad) := by
    intro ρ G QQ ι H k h
    cases e : fs ρ G with
    | ok ds G1 => rw [e] at h; simp only [Res.bind] at h ⊢; rw [if_pos (hfs _ _ _ _ e)]; exact h
    | ex _ _ _ => rw [e] at h; exact h
    | bad => rw [e] at h; exact h
  have len2 : ∀ {ρ : Env} {G : Hpp} {QQ : R → List Addr → Hpp → Hp → V → Prop} {ι : List Addr} {H : Hp} {k : List D → Hpp → Res R}, Post X.prog X.w X.K (RR X.prog X.w X.K) XC W ι H QQ ((gs ρ G).bind k) → Post X.prog X.w X.K (RR X.prog X.w X.K) XC W ι H QQ ((gs ρ G).bind fun ds G1 => if ds.length = ks.length then k ds G1 else .bad) := by
    intro ρ G QQ ι H k h
    cases e : gs ρ G with
    | ok ds G1 => rw [e] at h; simp only [Res.bind] at h ⊢; rw [if_pos (hgs _ _ _ _ e)]; exact h
    | ex _ _ _ => rw [e] at h; exact h
    | bad => rw [e] at h; exact h
  obtain ⟨⟨ds0, dvs, hd1, hd2, hbt⟩, hlen⟩ := hb
  have fin : ∀ (pins : List (Addr × Obj)) (s : Shared) (σ : L2.St) (ι : List Addr) (G : Hpp) (H : Hp) (vs zs : List V) (us ws : List Value) (ds es : List D) (QQ : R → List Addr → Hpp → Hp → V → Prop), Inv X pins σ H s → HR X.prog X.w X.K ι G H → Vals vs us → Vals zs ws → RVs X.K ι H vs ds → RVs X.K ι H zs es → ds.length = n → es.length = ks.length →
      Post X.prog X.w X.K (RR X.prog X.w X.K) XC W ι H QQ ((CF f (ds ++ es ++ dd) G).bind fun d G3 => okV d G3) → wpAny (model X.prog X.w) X.A (call (.ref fp) us (ks.zip ws)) (EP X pins σ (QV QQ)) X.xe s := by
    intro pins s σ ι G H vs zs us ws ds es QQ I hr' rv rw' q1 q2 l1 l2 h
    have rall : Vals (vs ++ zs ++ dvs) (us ++ ws ++ ds0) := (rv.append rw').append hd1
    have lus : us.length = n := by rw [← rv.length, q1.length, l1]
    have lws : ws.length = ks.length := by rw [← rw'.length, q2.length, l2]
    have hsp : spL X.prog X.w X.K XC CF f ps.length (vs ++ zs ++ dvs) H (QV QQ) W := by
      refine ⟨ι, G, ds ++ es ++ dd, hr', (q1.append q2).append (hd2 ι H), ?_, (post_val h).imp fun d ι' G' H' v q => ⟨_, _, _, q⟩⟩
      rw [List.length_append, List.length_append, q1.length, q2.length, (hd2 ι H).length, l1, l2]
      exact hlen
    refine wpAny_call (codeAny_mono (F.run X.A X.stack s H ⟨us, ks.zip ws⟩ (us ++ ws ++ ds0) (vs ++ zs ++ dvs) (QV QQ) W hr I.env0 (hbt s us ws I.kIn lus lws) rall hsp) fun r s' hq => ?_)
    cases r with
    | error e => exact hx pins σ H s e s' I hq
    | ok fl =>
      cases fl with
      | ret u => exact I.after hq
      | next => exact False.elim hq
      | brk => exact False.elim hq
      | cont => exact False.elim hq
  refine ⟨fun pins s σ H Q I ⟨ι, ρ, G, hr', er, h⟩ => ?_⟩
  refine wpAny_Call_Name_kw (ld_glob I hg hm ?_ hdb)
  have h := len1 h
  cases args with
  | nil =>
    have hnil := hnil rfl
    subst hnil
    have l1 : ([] : List D).length = n := hfs ρ G [] G rfl
    have h : Post X.prog X.w X.K (RR X.prog X.w X.K) XC W ι H (fun _ _ _ H' v => Q v H') (if ([] : List D).length = n then (gs ρ G).bind fun zs G2 => (CF f ([] ++ zs ++ dd) G2).bind fun d G3 => okV d G3 else .bad) := h
    rw [if_pos l1] at h
    have h := len2 h
    refine PySem.W.callWith_KW0 (h₀ := X.base) I.ok.mod.kin hk n1 (thn (hkw.run pos pins s σ H _ I (step hr' er h)) fun ws s2 ⟨zs, H2, I2, r2, es, ι2, G2, f2, hr2, er2, q2, h2⟩ => ⟨I2.kIn, ?_⟩) (by rw [hpl, n3]; rfl)
    dsimp only at h2
    split at h2
    · rename_i l2
      rw [n2]
      exact thn (fin pins s2 σ ι2 G2 H2 [] zs [] ws [] es _ I2 hr2 .nil r2 .nil q2 l1 l2 (h2.shift hr2 f2 (backR f2 hr2))) fun _ _ e => ep_of e
    · exact h2.elim
  | cons e r =>
    refine PySem.W.callWith_KW (h₀ := X.base) I.ok.mod.kin hk n1 (thn (ha.run pos pins s σ H _ I (step hr' er h)) fun us s1 ⟨vs, H1, I1, r1, ds, ι1, G1, f1, hr1, er1, q1, h1⟩ => ?_) (by rw [hpl, n3]; rfl) (hst e r rfl)
    dsimp only at h1
    split at h1
    · rename_i l1
      have h1 := len2 h1
      refine thn (hkw.run pos pins s1 σ H1 _ I1 (step2 f1 hr1 er1 (backR f1 hr1) h1)) fun ws s2 ⟨zs, H2, I2, r2, es, ι2, G2, f2, hr2, er2, q2, h2⟩ => ⟨I2.kIn, ?_⟩
      dsimp only at h2
      split at h2
      · rename_i l2
        rw [n2]
        exact thn (fin pins s2 σ ι2 G2 H2 vs zs us ws ds es _ I2 hr2 r1 r2 (RVs.go hr1 f2 q1) q2 l1 l2 (h2.shift hr2 f2 (backR f2 hr2))) fun _ _ e => ep_of e
      · exact h2.elim
    · exact h1.elim
theorem lstM_ty {r : R} {x : V} {H0 : Hp} (hr : HR X.prog X.w X.K ι G H) (h : RR X.prog X.w X.K H0 ι H x r) (e : (lstM r G).isSome = true) : tyV X.K "list" x H := by
  cases q : lstM r G with
  | none => rw [q] at e; cases e
  | some ds =>
    obtain ⟨a, xs, rfl, h1, _⟩ := rr_lstM hr h q
    exact .inl ⟨rfl, xs, SqL.of h1⟩
variable (hu : X.A.units + 150 < cLine)
include hu
/-- o.m(a), of a list -/
theorem x_meth1 {m : M1} {o : Expr} {fo : Env → Hpp → Res R} {apos cpos : Pos} (slot : Slot "list" m.nm m.id) (hty : typeOf (.builtin m.id) = pure (.type "method_descriptor")) (ho : PE X o (tR X XC W fo)) (ha : PE X a (tR X XC W fa))
    (hbase : attributeBase o m.nm X.env (eval o X.env) = eval o X.env) (hline : (apos.endLine == cpos.line) = true) (hs : starEach [a] X.env = [(false, eval a X.env)]) :
    PE X (.Call (.Attribute o m.nm apos) [a] [] cpos) (tR X XC W fun ρ G => (fo ρ G).bind fun x G1 => if (lstM x G1).isSome = true then (fa ρ G1).bind fun y G2 => meth1R m x y G2 else .bad) := by
  have hs0 : starEach (a :: []) X.env = (false, eval a X.env) :: starEach [] X.env := hs
  refine ⟨fun pins s σ H Q I ⟨ι, ρ, G, hr, er, h⟩ => ?_⟩
  refine wpAny_Call_method_late hbase (by rw [hs]; rfl) hline rfl (thn (ho.run pins s σ H _ I (step hr er h)) fun v s1 ⟨x, H1, I1, r1, rx, ι1, G1, f1, hr1, er1, q1, h1⟩ => ?_)
  dsimp only at h1
  split at h1
  · rename_i hL
    obtain ⟨t1, t2⟩ := tyV_is I1 r1 (lstM_ty hr1 q1 hL)
    refine ⟨"list", m.id, PySem.F.plainAttrs_list, slot, hty, t1, t2, ?_⟩
    rw [hs]
    refine Calls.callWith_builtin rfl (Calls.evalArgs_plain (Calls.spliced_cons (thn (ha.run pins s1 σ H1 _ I1 (step2 f1 hr1 er1 (backR f1 hr1) h1)) fun u s2 ⟨y, H2, I2, r2, ry, ι2, G2, f2, hr2, er2, q2, h2⟩ => Calls.spliced_nil ?_)))
    exact thn (meth1_ok hu I2 hr2 f2 r1 r2 (q1.go hr1 f2) q2 h2) fun _ _ e => ep_of e
  · exact h1.elim
omit hu in
theorem x_meth0 {m : M0} {o : Expr} {fo : Env → Hpp → Res R} {apos cpos : Pos} (slot : Slot "list" m.nm m.id) (hty : typeOf (.builtin m.id) = pure (.type "method_descriptor")) (ho : PE X o (tR X XC W fo))
    (hbase : attributeBase o m.nm X.env (eval o X.env) = eval o X.env) (hline : (apos.endLine == cpos.line) = true) :
    PE X (.Call (.Attribute o m.nm apos) [] [] cpos) (tR X XC W fun ρ G => (fo ρ G).bind fun x G1 => if (lstM x G1).isSome = true then meth0R m x G1 else .bad) := by
  refine ⟨fun pins s σ H Q I ⟨ι, ρ, G, hr, er, h⟩ => ?_⟩
  refine wpAny_Call_method0_late hbase hline (thn (ho.run pins s σ H _ I (step hr er h)) fun v s1 ⟨x, H1, I1, r1, rx, ι1, G1, f1, hr1, er1, q1, h1⟩ => ?_)
  dsimp only at h1
  split at h1
  · rename_i hL
    obtain ⟨t1, t2⟩ := tyV_is I1 r1 (lstM_ty hr1 q1 hL)
    refine ⟨"list", m.id, PySem.F.plainAttrs_list, slot, hty, t1, t2, ?_⟩
    exact Calls.callWith_builtin rfl (PySem.evalArgs_none (thn (meth0_ok I1 hr1 f1 r1 q1 h1) fun _ _ e => ep_of e))
  · exact h1.elim
end
end LK

set_option Elab.async false
set_option linter.all false
set_option autoImplicit false
set_option maxRecDepth 100000
set_option maxHeartbeats 4000000
/-! LkIter: what a loop walks. -/
namespace LK
open PySem PySem.Spec PyProof.Rows L2

/-! ### enumerate over a tuple -/
theorem meets_enum1 {v : Value} {o : Obj} {H : Heap → Prop} (B : Begins v o H) :
    Meets (Builtin.«enumerate.__new__» ⟨[.type "enumerate", v], []⟩) (fun _ R s => H s.heap ∧
      R (.ok (.ret (.ref (s.heap.push o).objs.size))) { s with heap := (s.heap.push o).push { cls := .type "enumerate", data := .fields #[.none, .bool false, .ref s.heap.objs.size, rawInt 0, .none, .none] } }) :=
  .of_wp fun prog w A R s h => by
    obtain ⟨hp, g, d, tk, os⟩ := s; obtain ⟨h1, h⟩ := h
    have hsub := sub_enumerate
    have q1 : ∀ {A' : Around} {E : Value → Shared → Prop} {Q : Value → Shared → Prop}, Q (.ref hp.objs.size) ⟨hp.push o, g, d, tk, os⟩ → wpAny (model prog w) A' (pyIter v) Q E ⟨hp, g, d, tk, os⟩ :=
      fun q => B.iter prog w _ _ ⟨hp, g, d, tk, os⟩ _ h1 q
    wp_walk using q1
    refine wpAny_stack_any fun st => wpAny_pure ?_
    split
    · rename_i c _ _ _ _ _
      cases (c == Value.type "enumerate")
      · wp_walk using q1
        exact ⟨_, rfl, h⟩
      · wp_walk using q1
        exact ⟨_, rfl, h⟩
    · wp_walk using q1
      exact ⟨_, rfl, h⟩
section
variable {prog : Program} {w : World} {A : Around} {E : Value → Shared → Prop} {s : Shared}
theorem enum_begins1 {v : Value} {o : Obj} {H : Heap → Prop} {Q : Value → Shared → Prop} (B : Begins v o H) (h1 : H s.heap)
    (h : ∀ h', IsEnum h' (s.heap.objs.size + 1) s.heap.objs.size 0 .none → h'.get? s.heap.objs.size = some o → h'.objs.size = s.heap.objs.size + 2 →
      (∀ b o, s.heap.get? b = some o → h'.get? b = some o) → Q (.ref (s.heap.objs.size + 1)) { s with heap := h' }) :
    wpAny (model prog w) A (call (.type "enumerate") [v]) Q E s := by
  refine callType_new F.called_enumerate (by decide) (F.typeCall_enumerate_1 _) (F.newCall_enumerate_1 _) (fun obj => F.args_object_init_2 obj _) F.entry_enumerate_new
    (meets_enum1 B) ⟨h1, ?_⟩
  have hz : (s.heap.push o).objs.size = s.heap.objs.size + 1 := Heap.size_push ..
  show _ ∧ _
  rw [hz]
  have he : IsEnum ((s.heap.push o).push { cls := .type "enumerate", data := .fields #[.none, .bool false, .ref s.heap.objs.size, rawInt 0, .none, .none] }) (s.heap.objs.size + 1) s.heap.objs.size 0 .none := by
    have := Heap.get?_push_size (s.heap.push o) (o := { cls := .type "enumerate", data := .fields #[.none, .bool false, .ref s.heap.objs.size, rawInt 0, .none, .none] }) rfl
    rw [hz] at this; exact this
  refine ⟨⟨_, he, rfl⟩, h _ he (Heap.get?_push_of_some _ (Heap.get?_push_size _ B.free)) (by rw [Heap.size_push, hz]) fun b o x => Heap.get?_push_of_some _ (Heap.get?_push_of_some _ x)⟩
end
/-- the tuple at a, each item in a new pair -/
def ItE (Sq : Hp → List V → Prop) : It :=
  ⟨fun i H => ∃ (xs : List V) (x : V), Sq H xs ∧ xs[i]? = some x, fun i H v H' => ∃ T x, v = .ref T ∧ H T = none ∧ H' = upd H T (.tup [.int (i : Nat), x]) ∧ ∀ xs, Sq H xs → xs[i]? = some x, fun i H => ∃ xs : List V, Sq H xs ∧ xs.length ≤ i⟩
theorem turn_enumT {P : Program} {w : World} {K : PySem.W.Frag} {elts : List Expr} {kk : Nat} {tpos : Pos} (a e it : Addr) :
    Turn P w K (.Tuple elts kk tpos) (ItE fun H xs => SqT K H a xs) [e, it] e (fun i h => (∃ old, IsEnum h e it ((i : Nat) : Int) old) ∧ h.IsTupleIter it a i ∧ e ≠ it ∧ a ≠ it ∧ e ≠ a) where
  mem := by simp
  obj := fun i h st b hb => by
    obtain ⟨⟨old, he⟩, ⟨o, ho, hc, hd⟩, _⟩ := st
    have e' : b = e ∨ b = it := by simpa using hb
    rcases e' with z | z
    · rw [z]; exact ⟨_, he, fun v q => nomatch q⟩
    · rw [z]; exact ⟨o, ho, fun v q => by rw [hd] at q; cases q⟩
  keep := fun i h h' st k => let ⟨⟨old, he⟩, hi, hne⟩ := st; ⟨⟨old, k e (by simp) _ he⟩, hi.at fun o q => k it (by simp) o q, hne⟩
  item := by
    intro X hP hw hK hc i pins s σ H E I hf st hg
    subst hP hw hK
    obtain ⟨⟨old, he⟩, hit, hne, hai, hea⟩ := st
    obtain ⟨xs, x, hq, hx⟩ := hg
    obtain ⟨its, rv, p, hz⟩ := I.tuple hq
    obtain ⟨u, hu, ru⟩ := rv.get hx
    have hel : e < s.heap.objs.size := Heap.lt_size he
    have hil : it < s.heap.objs.size := by obtain ⟨_, q, _⟩ := hit; exact Heap.lt_size q
    have hlt : i < its.toArray.size := by simpa using (List.getElem?_eq_some_iff.mp hu).1
    have p' : s.heap.IsTuple a its.toArray := p
    refine wpAny_pyNext_enum_itemD (Draws.tuple (A := X.A.in1) (I.ok.hd hc) it a hai its.toArray) he ⟨hit, p'⟩ hlt hne (by simp [hne, hea]) fun x' h' tk hP ho hs' hT hsz hk => ?_
    have hx' : x' = u := by
      rw [List.getElem?_toArray, hu] at hP
      exact (Option.some.inj hP).symm
    subst hx'
    refine ⟨_, rfl, wpAny_letOwnedTupleGo_enum (s := { s with heap := h', toks := tk + 1 }) ho fun h'' he' sb => ?_⟩
    have hT2 : h''.get? s.heap.objs.size = some { cls := .type "tuple", data := .seq #[.int i tk, x'] } := (sb.2 _ (Nat.ne_of_gt hel)).trans hT
    have new : ObjOk X.prog X.w (upd H s.heap.objs.size (.tup [.int (i : Nat), x])) h'' s.heap.objs.size (.tup [.int (i : Nat), x]) :=
      ⟨by show 2 ≤ sizeLine; decide, [.int i tk, x'], .cons ⟨_, rfl⟩ (.cons ru .nil), ⟨_, hT2, rfl, _, rfl⟩⟩
    have I1 : Inv X pins σ (upd H s.heap.objs.size (.tup [.int (i : Nat), x])) { s with heap := h'', toks := tk + 1 } :=
      I.turnedNew (ch := [e, it]) (fun b ob hb q => (sb.2 b (fun z => hb (by simp [z]))).trans (hk b ob (fun z => hb (by simp [z])) (fun z => hb (by simp [z])) q)) hf (Nat.le_refl _) new
    refine ⟨.ref s.heap.objs.size, _, I1, rfl, ⟨_, x, rfl, I.hok.fresh (Nat.le_refl _), rfl, fun ys hy => by rw [I.tuple_inj hy hq]; exact hx⟩, ⟨⟨x', ?_⟩, hs'.1.at fun o q => (sb.2 it (Ne.symm hne)).trans q, hne, hai, hea⟩, fun b hb => ?_⟩
    · have e1 : ((i + 1 : Nat) : Int) = (i : Int) + 1 := by omega
      rw [e1]; exact he'
    · have hb' : b < s.heap.objs.size := by
        have e' : b = e ∨ b = it := by simpa using hb
        rcases e' with z | z
        · rw [z]; exact hel
        · rw [z]; exact hil
      rw [upd_ne (Nat.ne_of_lt hb')]
      exact (hf b hb).1
  done := by
    intro X hP hw hK hc i pins s σ H E I hf st hg
    subst hP hw hK
    obtain ⟨⟨old, he⟩, hit, hne, hai, hea⟩ := st
    obtain ⟨xs, hq, hx⟩ := hg
    obtain ⟨its, rv, p, hz⟩ := I.tuple hq
    obtain ⟨f0, f1, f2, f3, f4, f5⟩ := hf it (by simp)
    have hl := rv.length
    have p' : s.heap.IsTuple a its.toArray := p
    have hT : s.TypeIs (.ref e) "enumerate" := ⟨_, he, rfl⟩
    unfold pyNext
    refine wpAny_bind (wpAny_attempt (wpAny_callSpecial?_slot (name := Str.ofString "__next__") hT F.slot_enumerate_next
      (wpAny_call_entry F.slot_enumerate_next hT F.entry_enumerate_next ?_ (F.args_enumerate_next_1 _))))
    show wpAny _ _ (field (.ref e) 2 >>= _) _ _ _
    refine wpAny_bind (wpAny_field he rfl (x := .ref it) rfl ?_)
    refine wpAny_bind (wpAny_nextOf_tuple_end (A := X.A.in1) (I.ok.hd hc) hit p' (by simp; omega) fun h' x he' hx' => ?_)
    obtain ⟨o, ho, hc⟩ := hx'
    refine wpAny_bind (wpAny_isInstance (T := "StopIteration") (b := true) ⟨o, ho, hc⟩ isSubtype_stop ?_)
    exact wpAny_pure ⟨rfl, I.turned (t' := s.toks) (fun b o hb q => he' b o hb q) f0 f1 f3 f4 f5⟩
  self := fun A i s Q E st h => let ⟨⟨_, he⟩, _⟩ := st; wpAny_pyIter_enum he h

/-! ### walks -/
section
variable (P : Program) (w : World) (K : PySem.W.Frag)
/-- how an iterator walks -/
def WR (ι : List Addr) (H : Hp) (J : It) (wk : Walk) : Prop := ∀ ι' G' H', Fr2 ι H ι' H' → HR P w K ι' G' H' → ∀ i, match wk.item i G' with
  | .stop => J.stop i H'
  | .bad => True
  | .yld d => J.go i H' ∧ ∀ x H'', J.yld i H' x H'' → Fr2 ι' H' ι' H'' ∧ HR P w K ι' G' H'' ∧ RV K ι' H'' x d
/-- .. over a list or a tuple -/
def LW (Sq : Hp → List V → Prop) (ι : List Addr) (H : Hp) (wk : Walk) : Prop := ∀ ι' G' H', Fr2 ι H ι' H' → HR P w K ι' G' H' → (∀ i, wk.item i G' = .bad) ∨ ∃ xs ds, Sq H' xs ∧ RVs K ι' H' xs ds ∧ ∀ i, wk.item i G' = match ds[i]? with
  | some d => .yld d
  | none => .stop
end
def ItS (Sq : Hp → List V → Prop) : It := ⟨fun i H => ∃ xs x, Sq H xs ∧ xs[i]? = some x, fun i H x H' => H' = H ∧ ∀ xs, Sq H xs → xs[i]? = some x, fun i H => ∃ xs, Sq H xs ∧ xs.length ≤ i⟩
def ItZ (Sq Sq2 : Hp → List V → Prop) : It :=
  ⟨fun i H => ∃ (xs ys : List V) (x y : V), Sq H xs ∧ Sq2 H ys ∧ xs[i]? = some x ∧ ys[i]? = some y,
    fun i H v H' => ∃ T x y, v = .ref T ∧ H T = none ∧ H' = upd H T (.tup [x, y]) ∧ (∀ xs, Sq H xs → xs[i]? = some x) ∧ ∀ ys, Sq2 H ys → ys[i]? = some y,
    fun i H => ∃ xs ys : List V, Sq H xs ∧ Sq2 H ys ∧ (xs.length ≤ i ∨ ys.length ≤ i)⟩
section
variable {P : Program} {w : World} {K : PySem.W.Frag} {ι ι' : List Addr} {G G' : Hpp} {H H' : Hp} {J : It} {wk wk2 : Walk} {Sq Sq2 : Hp → List V → Prop}
theorem WR.go (r : HR P w K ι' G' H') (f : Fr2 ι H ι' H') (h : WR P w K ι H J wk) : WR P w K ι' H' J wk := fun ι2 G2 H2 f2 r2 i => h ι2 G2 H2 (f.trans r f2) r2 i
theorem LW.s (h : LW P w K Sq ι H wk) : WR P w K ι H (ItS Sq) wk := fun ι' G' H' f r i => by
  rcases h ι' G' H' f r with h | ⟨xs, ds, h1, h2, h3⟩
  · rw [h i]; trivial
  · rw [h3 i]
    cases e : ds[i]? with
    | none => exact ⟨xs, h1, by rw [h2.length]; exact List.getElem?_eq_none_iff.mp e⟩
    | some d =>
      obtain ⟨x, e1, r1⟩ := h2.get e
      refine ⟨⟨xs, x, h1, e1⟩, fun y H'' ⟨e2, q⟩ => ?_⟩
      subst e2
      have e3 := q xs h1
      rw [e1] at e3; cases e3
      exact ⟨.refl, r, r1⟩
theorem rv_pair {x y : V} {d e : D} {T : Addr} (r : HR P w K ι G H) (hx : RV K ι H x d) (hy : RV K ι H y e) (hT : H T = none) : RV K ι (upd H T (.tup [x, y])) (.ref T) (.tup [d, e]) :=
  .tup (SqT.of upd_same) (.cons (hx.laid r hT) (.cons (hy.laid r hT) .nil))
theorem LW.e (h : LW P w K Sq ι H wk) : WR P w K ι H (ItE Sq) (.enum wk) := fun ι' G' H' f r i => by
  rcases h ι' G' H' f r with h | ⟨xs, ds, h1, h2, h3⟩
  · simp only [Walk.item, h i]
  · simp only [Walk.item, h3 i]
    cases e : ds[i]? with
    | none => exact ⟨xs, h1, by rw [h2.length]; exact List.getElem?_eq_none_iff.mp e⟩
    | some d =>
      obtain ⟨x, e1, r1⟩ := h2.get e
      refine ⟨⟨xs, x, h1, e1⟩, fun y H'' ⟨T, x', e2, hT, e3, q⟩ => ?_⟩
      subst e2 e3
      have e4 := q xs h1
      rw [e1] at e4; cases e4
      exact ⟨Fr2.laid hT, r.laid hT, rv_pair r (.int _) r1 hT⟩
theorem LW.z (h : LW P w K Sq ι H wk) (g : LW P w K Sq2 ι H wk2) : WR P w K ι H (ItZ Sq Sq2) (.zip wk wk2) := fun ι' G' H' f r i => by
  rcases h ι' G' H' f r with h | ⟨xs, ds, h1, h2, h3⟩
  · simp only [Walk.item, h i]
  · rcases g ι' G' H' f r with g | ⟨ys, es, g1, g2, g3⟩
    · simp only [Walk.item, h3 i, g i]
      cases ds[i]? <;> trivial
    · simp only [Walk.item, h3 i, g3 i]
      cases e : ds[i]? with
      | none =>
        have hl : xs.length ≤ i := by rw [h2.length]; exact List.getElem?_eq_none_iff.mp e
        cases e' : es[i]? with
        | none => exact ⟨xs, ys, h1, g1, .inl hl⟩
        | some d' => exact ⟨xs, ys, h1, g1, .inl hl⟩
      | some d =>
        cases e' : es[i]? with
        | none => exact ⟨xs, ys, h1, g1, .inr (by rw [g2.length]; exact List.getElem?_eq_none_iff.mp e')⟩
        | some d' =>
          obtain ⟨x, e1, r1⟩ := h2.get e
          obtain ⟨y, e1', r1'⟩ := g2.get e'
          refine ⟨⟨xs, ys, x, y, h1, g1, e1, e1'⟩, fun z H'' ⟨T, x', y', e2, hT, e3, q, q'⟩ => ?_⟩
          subst e2 e3
          have e4 := q xs h1
          rw [e1] at e4; cases e4
          have e5 := q' ys g1
          rw [e1'] at e5; cases e5
          exact ⟨Fr2.laid hT, r.laid hT, rv_pair r r1 r1' hT⟩
theorem wr_rng {lo : Int} {n : Nat} : WR P w K ι H (Itr lo n) (.rng lo n) := fun ι' G' H' f r i => by
  simp only [Walk.item]
  by_cases hi : i < n
  · rw [if_pos hi]
    refine ⟨hi, fun x H'' ⟨e1, e2⟩ => ?_⟩
    subst e1 e2
    exact ⟨.refl, r, .int _⟩
  · rw [if_neg hi]
    exact Nat.le_of_not_lt hi
/-- what a value that is walked is -/
theorem walk_ok {x : V} {r : R} {H0 : Hp} (hr : HR P w K ι G H) (h : RR P w K H0 ι H x r) (e : toWalk r G = .ok wk G') : G' = G ∧ ∃ a xs, x = .ref a ∧
    ((r.isTup = true ∧ SqT K H a xs ∧ LW P w K (fun H xs => SqT K H a xs) ι H wk) ∨ (r.isTup = false ∧ SqL K H a xs ∧ LW P w K (fun H xs => SqL K H a xs) ι H wk)) := by
  cases r with
  | val d =>
    cases d with
    | tup ds =>
      simp only [toWalk, Res.ok.injEq] at e
      obtain ⟨e1, e2⟩ := e
      subst e1
      obtain ⟨a, xs, e3, h1, h2⟩ : ∃ a xs, x = .ref a ∧ SqT K H a xs ∧ RVs K ι H xs ds := by cases h with | tup h1 h2 => exact ⟨_, _, rfl, h1, h2⟩
      exact ⟨e2.symm, a, xs, e3, .inl ⟨rfl, h1, fun ι' G' H' f r => .inr ⟨xs, ds, SqT.go hr f h1, h2.go hr f, fun i => rfl⟩⟩⟩
    | frl ds =>
      simp only [toWalk, Res.ok.injEq] at e
      obtain ⟨e1, e2⟩ := e
      subst e1
      obtain ⟨a, xs, e3, h1, h2⟩ : ∃ a xs, x = .ref a ∧ Frl K H a xs ∧ RVs K ι H xs ds := by cases h with | frl h1 h2 => exact ⟨_, _, rfl, h1, h2⟩
      exact ⟨e2.symm, a, xs, e3, .inr ⟨rfl, h1.sql, fun ι' G' H' f r => .inr ⟨xs, ds, (Frl.go hr f h1).sql, h2.go hr f, fun i => rfl⟩⟩⟩
    | ref n =>
      cases h with
      | ref hn =>
        cases hg : G[n]? with
        | none => simp [toWalk, hg] at e
        | some c =>
          cases c with
          | lst es =>
            simp only [toWalk, hg, Res.ok.injEq] at e
            obtain ⟨e1, e2⟩ := e
            subst e1
            obtain ⟨xs, h1, h2⟩ := hr.cell n _ _ hg hn
            refine ⟨e2.symm, _, xs, rfl, .inr ⟨rfl, SqL.of h1, fun ι' G' H' f r => ?_⟩⟩
            have hn' := pre_get f.pre hn
            obtain ⟨c', hg', hc'⟩ := r.at hn'
            cases c' with
            | lst ds' =>
              obtain ⟨xs', k1, k2⟩ := hc'
              refine .inr ⟨xs', ds', SqL.of k1, k2, fun i => ?_⟩
              simp only [Walk.item, hg']
              try (cases ds'[i]? <;> rfl)
            | dct t kvs => exact .inl fun i => by simp only [Walk.item, hg']
            | set ds' => exact .inl fun i => by simp only [Walk.item, hg']
          | dct t kvs => simp [toWalk, hg] at e
          | set es => simp [toWalk, hg] at e
    | _ => simp [toWalk] at e
  | newL ds =>
    simp only [toWalk, Res.ok.injEq] at e
    obtain ⟨e1, e2⟩ := e
    subst e1
    obtain ⟨a, xs, h1, h2, h3, h4, h5⟩ := h
    exact ⟨e2.symm, a, xs, h1, .inr ⟨rfl, SqL.of h2, fun ι' G' H' f r => .inr ⟨xs, ds, SqL.of (f.ext _ _ h2 h5), h3.go hr f, fun i => rfl⟩⟩⟩
  | newD t kvs => simp [toWalk] at e
  | newS ds => simp [toWalk] at e
theorem toWalk_ex {r : R} {c : Str} {d : D} : toWalk r G ≠ .ex c d G' := by
  intro h
  unfold toWalk at h
  split at h <;> first | (cases h; done) | (split at h <;> cases h)
end
section
variable {X : Cx} {XC : XCT} {W : WT} {pins : List (Addr × Obj)} {σ : L2.St} {s : Shared} {ι : List Addr} {ρ : Env} {G : Hpp} {H : Hp} {tg : Expr}
  {a b e : Expr} {fa fb : Env → Hpp → Res R} {pos : Pos}
def RelW (X : Cx) : Hp → List Addr → Hp → It → Walk → Prop := fun _ ι H J wk => WR X.prog X.w X.K ι H J wk
abbrev tI (X : Cx) (XC : XCT) (W : WT) (f : Env → Hpp → Res Walk) : TI := tX X XC W (RelW X) f
theorem it_list {ad : Addr} {xs : List V} {R : It → Hp → Prop} (I : Inv X pins σ H s) (hq : SqL X.K H ad xs) (q : R (ItS fun H xs => SqL X.K H ad xs) H) : wpAny (model X.prog X.w) X.A (pyIter (.ref ad)) (PIE X pins σ tg R) X.xe s := by
  obtain ⟨its, rv, p, hz⟩ := I.list hq
  refine wpAny_pyIter_list p.isList ?_
  refine ⟨s.heap.objs.size, [s.heap.objs.size], _, _, H, rfl, I.kept (t' := s.toks) fun b o e => Heap.get?_push_of_some _ e, turn_list ad _, ⟨_, Heap.get?_push_size _ rfl, rfl, rfl⟩, fun b hb => ?_, q⟩
  have e : b = s.heap.objs.size := by simpa using hb
  subst e
  exact I.fpOk (Nat.le_refl _) (I.hok.fresh (Nat.le_refl _))
theorem it_tup {ad : Addr} {xs : List V} {R : It → Hp → Prop} (I : Inv X pins σ H s) (hq : SqT X.K H ad xs) (q : R (ItS fun H xs => SqT X.K H ad xs) H) : wpAny (model X.prog X.w) X.A (pyIter (.ref ad)) (PIE X pins σ tg R) X.xe s := by
  obtain ⟨its, rv, p, hz⟩ := I.tuple hq
  refine wpAny_pyIter_tuple (show s.heap.IsTuple ad its.toArray from p) ?_
  refine ⟨s.heap.objs.size, [s.heap.objs.size], _, _, H, rfl, I.kept (t' := s.toks) fun b o e => Heap.get?_push_of_some _ e, turn_tuple ad _, ⟨_, Heap.get?_push_size _ rfl, rfl, rfl⟩, fun b hb => ?_, q⟩
  have e : b = s.heap.objs.size := by simpa using hb
  subst e
  exact I.fpOk (Nat.le_refl _) (I.hok.fresh (Nat.le_refl _))
theorem i_ex (he : PE X e (tR X XC W fa)) : PI X tg e (tI X XC W fun ρ G => (fa ρ G).bind toWalk) := by
  refine ⟨fun pins s σ H R I ⟨ι, ρ, G, hr, er, h⟩ => thn (he.run pins s σ H _ I (step hr er h)) fun v s1 ⟨x, H1, I1, r1, q, ι1, G1, f1, hr1, er1, q1, h1⟩ => ?_⟩
  cases ew : toWalk q G1 with
  | ok wk G2 =>
    rw [ew] at h1
    obtain ⟨e2, ad, xs, ex, hs⟩ := walk_ok hr1 q1 ew
    subst ex
    cases r1
    rcases hs with ⟨_, hs, hl⟩ | ⟨_, hs, hl⟩
    · exact it_tup I1 hs (h1 ι1 H1 _ f1 (e2 ▸ hr1) hl.s)
    · exact it_list I1 hs (h1 ι1 H1 _ f1 (e2 ▸ hr1) hl.s)
  | ex c d G2 => exact (toWalk_ex ew).elim
  | bad => rw [ew] at h1; exact h1.elim
theorem i_rng1 {p : Pos} (hb : Blt X "range" (.type "range")) (ha : PE X a (tR X XC W fa)) (hs : starEach [a] X.env = [(false, eval a X.env)]) :
    PI X tg (.Call (.Name "range" p) [a] [] pos) (tI X XC W fun ρ G => (fa ρ G).bind fun x G1 => match x with
    | .val (.int j) => if -(LIM : Int) ≤ j ∧ j ≤ LIM then .ok (.rng 0 j.toNat) G1 else .bad
    | _ => .bad) := by
  have e0 : starEach (a :: []) X.env = (false, eval a X.env) :: starEach [] X.env := hs
  refine ⟨fun pins s σ H R I ⟨ι, ρ, G, hr, er, h⟩ => ?_⟩
  refine Call_ (ld_blt I hb.gl hb.mg hb.bv (PyProof.Rows.callWith_type1 ?_ e0 rfl) hb.nn hb.nd)
  rw [hs]
  show wpAny _ _ (spliced ((false, eval a X.env) :: backTo pos [])) _ _ s
  refine Calls.spliced_cons (thn (ha.run pins s σ H _ I (step hr er h)) fun u s1 ⟨x, H1, I1, r1, q, ι1, G1, f1, hr1, er1, q1, h1⟩ => Calls.spliced_nil ?_)
  dsimp only at h1
  split at h1
  · rename_i j
    split at h1
    · rename_i hj
      cases rv_int q1
      obtain ⟨t, rfl⟩ := r1
      have hL : -(1000000 : Int) ≤ j ∧ j ≤ (1000000 : Int) := hj
      exact call_range_1 (range_it I1 (by omega) (by omega) (by omega) (by omega) (by simpa using h1 ι1 H1 _ f1 hr1 wr_rng))
    · exact h1.elim
  · exact h1.elim
theorem i_rng2 {p : Pos} (hb : Blt X "range" (.type "range")) (ha : PE X a (tR X XC W fa)) (hb2 : PE X b (tR X XC W fb)) (hs : starEach [a, b] X.env = [(false, eval a X.env), (false, eval b X.env)]) (hs2 : starEach [b] X.env = [(false, eval b X.env)]) :
    PI X tg (.Call (.Name "range" p) [a, b] [] pos) (tI X XC W fun ρ G => (fa ρ G).bind fun x G1 => (fb ρ G1).bind fun y G2 => match x, y with
    | .val (.int i), .val (.int j) => if (-(LIM : Int) ≤ i ∧ i ≤ LIM) ∧ -(LIM : Int) ≤ j ∧ j ≤ LIM then .ok (.rng i (j - i).toNat) G2 else .bad
    | _, _ => .bad) := by
  have e0 : starEach (a :: [b]) X.env = (false, eval a X.env) :: starEach [b] X.env := by rw [hs, hs2]
  have hpl : (backTo pos (starEach [b] X.env)).any (·.1) = false := by rw [hs2]; rfl
  refine ⟨fun pins s σ H R I ⟨ι, ρ, G, hr, er, h⟩ => ?_⟩
  refine Call_ (ld_blt I hb.gl hb.mg hb.bv (PyProof.Rows.callWith_type1 ?_ e0 hpl) hb.nn hb.nd)
  rw [hs]
  show wpAny _ _ (spliced ((false, eval a X.env) :: (false, eval b X.env) :: backTo pos [])) _ _ s
  refine Calls.spliced_cons (thn (ha.run pins s σ H _ I (step hr er h)) fun u s1 ⟨x, H1, I1, r1, q, ι1, G1, f1, hr1, er1, q1, h1⟩ => ?_)
  refine Calls.spliced_cons (thn (hb2.run pins s1 σ H1 _ I1 (step2 f1 hr1 er1 (fun _ _ _ _ z => z) h1)) fun u2 s2 ⟨y, H2, I2, r2, q', ι2, G2, f2, hr2, er2, q2, h2⟩ => Calls.spliced_nil ?_)
  dsimp only at h2
  split at h2
  · rename_i i j _
    split at h2
    · rename_i hj
      cases rv_int (RR.go (H0 := H) hr1 f2 q1)
      cases rv_int q2
      obtain ⟨t, rfl⟩ := r1
      obtain ⟨t', rfl⟩ := r2
      have hL : (-(1000000 : Int) ≤ i ∧ i ≤ (1000000 : Int)) ∧ -(1000000 : Int) ≤ j ∧ j ≤ (1000000 : Int) := hj
      exact call_range_2 (range_it I2 (by omega) (by omega) (by omega) (by omega) (h2 ι2 H2 _ f2 hr2 wr_rng))
    · exact h2.elim
  · exact h2.elim
theorem i_enum {p tpos : Pos} {elts : List Expr} {kk : Nat} (hb : Blt X "enumerate" (.type "enumerate")) (ha : PE X a (tR X XC W fa)) (hs : starEach [a] X.env = [(false, eval a X.env)]) :
    PI X (.Tuple elts kk tpos) (.Call (.Name "enumerate" p) [a] [] pos) (tI X XC W fun ρ G => (fa ρ G).bind fun x G1 => (toWalk x G1).bind fun w G2 => .ok (.enum w) G2) := by
  have e0 : starEach (a :: []) X.env = (false, eval a X.env) :: starEach [] X.env := hs
  refine ⟨fun pins s σ H R I ⟨ι, ρ, G, hr, er, h⟩ => ?_⟩
  refine Call_ (ld_blt I hb.gl hb.mg hb.bv (PyProof.Rows.callWith_type1 ?_ e0 rfl) hb.nn hb.nd)
  rw [hs]
  show wpAny _ _ (spliced ((false, eval a X.env) :: backTo pos [])) _ _ s
  refine Calls.spliced_cons (thn (ha.run pins s σ H _ I (step hr er h)) fun u s1 ⟨x, H1, I1, r1, q, ι1, G1, f1, hr1, er1, q1, h1⟩ => Calls.spliced_nil ?_)
  dsimp only at h1
  have fresh2 : ∀ b ∈ [s1.heap.objs.size + 1, s1.heap.objs.size], FpOk X pins H1 b := fun b hb => by
    have e' : b = s1.heap.objs.size + 1 ∨ b = s1.heap.objs.size := by simpa using hb
    have hle : s1.heap.objs.size ≤ b := by
      rcases e' with z | z
      · rw [z]; exact Nat.le_add_right _ _
      · rw [z]; exact Nat.le_refl _
    exact I1.fpOk hle (I1.hok.fresh hle)
  cases ew : toWalk q G1 with
  | ok wk G2 =>
    rw [ew] at h1
    obtain ⟨e2, ad, xs, ex, hs⟩ := walk_ok hr1 q1 ew
    subst ex
    cases r1
    rcases hs with ⟨_, hs, hl⟩ | ⟨_, hs, hl⟩
    · obtain ⟨its, rv, p', hz⟩ := I1.tuple hs
      have p2 : s1.heap.IsTuple ad its.toArray := p'
      have hlt : ad < s1.heap.objs.size := by obtain ⟨o, ho, _⟩ := p2; exact Heap.lt_size ho
      refine enum_begins1 (begins_tuple ad its.toArray) p2 fun h' he hit hsz hk => wpAny_pyIter_enum he ?_
      have I2 : Inv X pins σ H1 { s1 with heap := h' } := I1.kept (t' := s1.toks) hk
      exact ⟨s1.heap.objs.size + 1, [s1.heap.objs.size + 1, s1.heap.objs.size], _, _, H1, rfl, I2, turn_enumT ad (s1.heap.objs.size + 1) s1.heap.objs.size, ⟨⟨.none, he⟩, ⟨_, hit, rfl, rfl⟩, Nat.succ_ne_self _, Nat.ne_of_lt hlt, Nat.ne_of_gt (Nat.lt_succ_of_lt hlt)⟩, fresh2, h1 ι1 H1 _ f1 (e2 ▸ hr1) hl.e⟩
    · obtain ⟨its, rv, p', hz⟩ := I1.list hs
      refine call_enumerate_list p'.isList fun h' he hit hsz hk => wpAny_pyIter_enum he ?_
      have I2 : Inv X pins σ H1 { s1 with heap := h' } := I1.kept (t' := s1.toks) hk
      exact ⟨s1.heap.objs.size + 1, [s1.heap.objs.size + 1, s1.heap.objs.size], _, _, H1, rfl, I2, turn_enum ad (s1.heap.objs.size + 1) s1.heap.objs.size, ⟨⟨.none, he⟩, hit, Nat.succ_ne_self _⟩, fresh2, h1 ι1 H1 _ f1 (e2 ▸ hr1) hl.e⟩
  | ex c d G2 => exact (toWalk_ex ew).elim
  | bad => rw [ew] at h1; exact h1.elim
theorem i_zip {p tpos : Pos} {elts : List Expr} {kk : Nat} (hb : Blt X "zip" (.type "zip")) (ha : PE X a (tR X XC W fa)) (hb2 : PE X b (tR X XC W fb)) (hs : starEach [a, b] X.env = [(false, eval a X.env), (false, eval b X.env)]) (hs2 : starEach [b] X.env = [(false, eval b X.env)]) :
    PI X (.Tuple elts kk tpos) (.Call (.Name "zip" p) [a, b] [] pos) (tI X XC W fun ρ G => (fa ρ G).bind fun x G1 => (fb ρ G1).bind fun y G2 => if x.isTup = y.isTup then (toWalk x G2).bind fun w G3 => (toWalk y G3).bind fun v G4 => .ok (.zip w v) G4 else .bad) := by
  have e0 : starEach (a :: [b]) X.env = (false, eval a X.env) :: starEach [b] X.env := by rw [hs, hs2]
  have hpl : (backTo pos (starEach [b] X.env)).any (·.1) = false := by rw [hs2]; rfl
  refine ⟨fun pins s σ H R I ⟨ι, ρ, G, hr, er, h⟩ => ?_⟩
  refine Call_ (ld_blt I hb.gl hb.mg hb.bv (PyProof.Rows.callWith_type1 ?_ e0 hpl) hb.nn hb.nd)
  rw [hs]
  show wpAny _ _ (spliced ((false, eval a X.env) :: (false, eval b X.env) :: backTo pos [])) _ _ s
  refine Calls.spliced_cons (thn (ha.run pins s σ H _ I (step hr er h)) fun u s1 ⟨x, H1, I1, r1, q, ι1, G1, f1, hr1, er1, q1, h1⟩ => ?_)
  refine Calls.spliced_cons (thn (hb2.run pins s1 σ H1 _ I1 (step2 f1 hr1 er1 (fun _ _ _ _ z => z) h1)) fun u2 s2 ⟨y, H2, I2, r2, q', ι2, G2, f2, hr2, er2, q2, h2⟩ => Calls.spliced_nil ?_)
  dsimp only at h2
  split at h2
  · rename_i hk
    have q1' := RR.go hr1 f2 q1
    cases ew : toWalk q G2 with
    | ok wk G3 =>
      rw [ew] at h2
      obtain ⟨e2, ad, xs, ex, hsx⟩ := walk_ok hr2 q1' ew
      subst e2
      cases ew2 : toWalk q' G3 with
      | ok wk2 G4 =>
        simp only [Res.bind, ew2] at h2
        obtain ⟨e3, ad2, ys, ex2, hsy⟩ := walk_ok hr2 q2 ew2
        subst e3
        subst ex ex2
        cases r1
        cases r2
        have fresh5 : ∀ c, c ∈ [s2.heap.objs.size + 4, s2.heap.objs.size + 2, s2.heap.objs.size + 3, s2.heap.objs.size, s2.heap.objs.size + 1] → FpOk X pins H2 c := fun c hcm => by
          have e' : c = s2.heap.objs.size + 4 ∨ c = s2.heap.objs.size + 2 ∨ c = s2.heap.objs.size + 3 ∨ c = s2.heap.objs.size ∨ c = s2.heap.objs.size + 1 := by simpa using hcm
          have hle : s2.heap.objs.size ≤ c := by
            rcases e' with z | z | z | z | z
            · rw [z]; exact Nat.le_add_right _ _
            · rw [z]; exact Nat.le_add_right _ _
            · rw [z]; exact Nat.le_add_right _ _
            · rw [z]; exact Nat.le_refl _
            · rw [z]; exact Nat.le_add_right _ _
          exact I2.fpOk hle (I2.hok.fresh hle)
        rcases hsx with ⟨k1, hqx, hl⟩ | ⟨k1, hqx, hl⟩
        · rcases hsy with ⟨k2, hqy, hl2⟩ | ⟨k2, hqy, hl2⟩
          · obtain ⟨its, rv, p1, _⟩ := I2.tuple hqx
            obtain ⟨its2, rv2, p2, _⟩ := I2.tuple hqy
            obtain ⟨o1, ho1, _⟩ := id p1
            obtain ⟨o2, ho2, _⟩ := id p2
            refine RZ.call_zipT (show s2.heap.IsTuple ad its.toArray from p1) (show s2.heap.IsTuple ad2 its2.toArray from p2) fun h' hz hTI hTO h1 h2' hsz hk => wpAny_pyIter_zip hz ?_
            have I3 : Inv X pins σ H2 { s2 with heap := h' } := I2.kept (t' := s2.toks) hk
            exact ⟨s2.heap.objs.size + 4, [s2.heap.objs.size + 4, s2.heap.objs.size + 2, s2.heap.objs.size + 3, s2.heap.objs.size, s2.heap.objs.size + 1], _, _, H2, rfl, I3, RZ.turn_zipT (PySem.W.ktu_apart s2.heap.objs.size ad ad2 (Heap.lt_size ho1) (Heap.lt_size ho2)), ⟨hz, hTI, ⟨_, _, hTO⟩, h1, h2'⟩, fresh5, h2 ι2 H2 _ f2 hr2 (LW.z hl hl2)⟩
          · rw [k1, k2] at hk; cases hk
        · rcases hsy with ⟨k2, hqy, hl2⟩ | ⟨k2, hqy, hl2⟩
          · rw [k1, k2] at hk; cases hk
          · obtain ⟨its, rv, p1, _⟩ := I2.list hqx
            obtain ⟨its2, rv2, p2, _⟩ := I2.list hqy
            refine call_zip_2 p1.isList p2.isList fun h' hz hTI hTO h1 h2' hsz hk => wpAny_pyIter_zip hz ?_
            have I3 : Inv X pins σ H2 { s2 with heap := h' } := I2.kept (t' := s2.toks) hk
            exact ⟨s2.heap.objs.size + 4, [s2.heap.objs.size + 4, s2.heap.objs.size + 2, s2.heap.objs.size + 3, s2.heap.objs.size, s2.heap.objs.size + 1], _, _, H2, rfl, I3, turn_zip (PySem.W.ktu_apart s2.heap.objs.size ad ad2 p1.lt p2.lt), ⟨hz, hTI, ⟨_, _, hTO⟩, h1, h2'⟩, fresh5, h2 ι2 H2 _ f2 hr2 (LW.z hl hl2)⟩
      | ex c d G4 => exact (toWalk_ex ew2).elim
      | bad => simp only [Res.bind, ew2] at h2; exact h2.elim
    | ex c d G3 => exact (toWalk_ex ew).elim
    | bad => rw [ew] at h2; exact h2.elim
  · exact h2.elim
end
end LK

set_option Elab.async false
set_option linter.all false
set_option autoImplicit false
set_option maxRecDepth 100000
set_option maxHeartbeats 4000000
/-! LkComp: targets, comprehensions. -/
namespace LK
open PySem PySem.Spec PyProof.Rows L2

theorem okB {α β : Type} {a : α} {G : Hpp} {f : α → Hpp → Res β} : (Res.ok a G).bind f = f a G := rfl
theorem bdB {α β : Type} {f : α → Hpp → Res β} : (Res.bad : Res α).bind f = .bad := rfl
theorem exB {α β : Type} {c : Str} {d : D} {G : Hpp} {f : α → Hpp → Res β} : (Res.ex c d G : Res α).bind f = .ex c d G := rfl
def Tg.sl : Tg → List Nat
  | .one i => [i]
  | .many js => js
def gSeq : List Nat → TGs
  | [] => gNil
  | j :: js => gCons (gName j) (gSeq js)
def gOf (K : PySem.W.Frag) : Tg → TG
  | .one i => gName i
  | .many js => gTup K js.length (gSeq js)
/-- the slots, some of which hold nothing that is known -/
def ERx (K : PySem.W.Frag) (ι : List Addr) (H : Hp) (σ : L2.St) (ρ : Env) (bad : Nat → Prop) : Prop := σ.length = ρ.length ∧ ∀ (i : Nat) (d : D), ¬ bad i → ρ[i]? = some (some d) → ∃ v, σ[i]? = some (some v) ∧ RV K ι H v d
def setsV : L2.St → List Nat → List V → L2.St
  | σ, j :: js, v :: vs => setsV (σ.set j (some v)) js vs
  | σ, _, _ => σ
section
variable {P : Program} {w : World} {K : PySem.W.Frag} {ι ι' : List Addr} {G G' : Hpp} {H H' : Hp} {σ : L2.St} {ρ ρ1 : Env} {bad : Nat → Prop}
theorem ERx.er (h : ERx K ι H σ ρ bad) (hb : ∀ i, ¬ bad i) : ER K ι H σ ρ := ⟨h.1, fun i d e => h.2 i d (hb i) e⟩
theorem ER.x (h : ER K ι H σ ρ) : ERx K ι H σ ρ bad := ⟨h.1, fun i d _ e => h.2 i d e⟩
theorem ERx.set (h : ERx K ι H σ ρ bad) (j : Nat) {v : V} {d : D} (r : RV K ι H v d) : ERx K ι H (σ.set j (some v)) (ρ.set j (some d)) fun i => bad i ∧ i ≠ j := by
  refine ⟨by rw [List.length_set, List.length_set]; exact h.1, fun i e nb he => ?_⟩
  by_cases hi : i = j
  · subst hi
    have hl : i < ρ.length := by
      have := (List.getElem?_eq_some_iff.mp he).1
      rwa [List.length_set] at this
    have hl' : i < σ.length := by rw [h.1]; exact hl
    rw [List.getElem?_set_self hl] at he
    cases he
    exact ⟨v, List.getElem?_set_self hl', r⟩
  · rw [List.getElem?_set_ne (Ne.symm hi)] at he
    rw [List.getElem?_set_ne (Ne.symm hi)]
    exact h.2 i e (fun hb => nb ⟨hb, hi⟩) he
theorem ERx.imp {bad' : Nat → Prop} (h : ERx K ι H σ ρ bad) (hb : ∀ i, bad i → bad' i) : ERx K ι H σ ρ bad' := ⟨h.1, fun i d n e => h.2 i d (fun z => n (hb i z)) e⟩
theorem sets_ok : ∀ {js : List Nat} {ds : List D} {xs : List V} {σ : L2.St} {ρ ρ1 : Env} {bad : Nat → Prop} {Q : L2.St → Hp → Prop}, setSlots ρ js ds = some ρ1 → RVs K ι H xs ds → ERx K ι H σ ρ bad → (ERx K ι H (setsV σ js xs) ρ1 (fun i => bad i ∧ i ∉ js) → Q (setsV σ js xs) H) → gSeq js xs σ H Q
  | [], [], _, σ, ρ, ρ1, bad, Q, e, r, er, q => by
    cases r
    simp only [setSlots, Option.some.injEq] at e
    subst e
    exact ⟨rfl, q (er.imp fun i h => ⟨h, by simp⟩)⟩
  | j :: js, d :: ds, _, σ, ρ, ρ1, bad, Q, e, r, er, q => by
    cases r with
    | cons r rs =>
      simp only [setSlots] at e
      refine ⟨_, _, rfl, sets_ok (js := js) e rs (er.set j r) fun er' => q (er'.imp fun i h => ⟨h.1.1, ?_⟩)⟩
      simp only [List.mem_cons, not_or]
      exact ⟨h.1.2, h.2⟩
  | [], _ :: _, _, _, _, _, _, _, e, _, _, _ => by simp [setSlots] at e
  | _ :: _, [], _, _, _, _, _, _, e, _, _, _ => by simp [setSlots] at e
theorem slots_len : ∀ {js : List Nat} {ds : List D} {ρ ρ1 : Env}, setSlots ρ js ds = some ρ1 → ds.length = js.length
  | [], [], _, _, _ => rfl
  | j :: js, d :: ds, ρ, ρ1, e => by
    simp only [setSlots] at e
    simp [slots_len e]
  | [], _ :: _, _, _, e => by simp [setSlots] at e
  | _ :: _, [], _, _, e => by simp [setSlots] at e
def sigOf (K : PySem.W.Frag) (tg : Tg) (σ σ' : L2.St) : Prop := ∃ xs, σ' = setsV σ tg.sl xs
theorem bind_ok {tg : Tg} {v : V} {d : D} {Q : L2.St → Hp → Prop} (e : bindTg tg d ρ = some ρ1) (r : RV K ι H v d) (er : ERx K ι H σ ρ bad) (q : ∀ σ', sigOf K tg σ σ' → ERx K ι H σ' ρ1 (fun i => bad i ∧ i ∉ tg.sl) → Q σ' H) : gOf K tg v σ H Q := by
  cases tg with
  | one i =>
    simp only [bindTg, Option.some.injEq] at e
    subst e
    exact q _ ⟨[v], rfl⟩ ((er.set i r).imp fun j h => ⟨h.1, by simpa [Tg.sl] using h.2⟩)
  | many js =>
    cases d with
    | tup ds =>
      simp only [bindTg] at e
      cases r with
      | tup h1 h2 => exact ⟨_, _, rfl, h1, by rw [h2.length]; exact slots_len e, sets_ok e h2 er fun er' => q _ ⟨_, rfl⟩ er'⟩
    | _ => simp [bindTg] at e
theorem wipe_get (vs : List Nat) (i : Nat) : ∀ (σ : L2.St), (wipe σ vs)[i]? = if i ∈ vs ∧ i < σ.length then some none else σ[i]? := by
  induction vs with
  | nil => intro σ; simp [wipe]
  | cons v vs ih =>
    intro σ
    unfold wipe
    by_cases hi : v = i
    · subst hi
      by_cases hl : v < σ.length
      · rw [List.getElem?_set_self (by rw [wipe_length]; exact hl), if_pos ⟨by simp, hl⟩]
      · rw [List.getElem?_eq_none (by rw [List.length_set, wipe_length]; omega), if_neg (fun h => hl h.2), List.getElem?_eq_none (by omega)]
    · rw [List.getElem?_set_ne hi, ih σ]
      by_cases hm : i ∈ vs
      · simp [hm]
      · simp [hm, Ne.symm hi]
theorem wipe_set {vs : List Nat} {j : Nat} {x : Option V} (hj : j ∈ vs) (σ : L2.St) : wipe (σ.set j x) vs = wipe σ vs := by
  refine List.ext_getElem? fun i => ?_
  rw [wipe_get, wipe_get, List.length_set]
  by_cases hi : i ∈ vs ∧ i < σ.length
  · rw [if_pos hi, if_pos hi]
  · rw [if_neg hi, if_neg hi]
    by_cases hij : j = i
    · subst hij
      have hl : ¬ j < σ.length := fun h => hi ⟨hj, h⟩
      rw [List.getElem?_eq_none (by rw [List.length_set]; omega), List.getElem?_eq_none (by omega)]
    · rw [List.getElem?_set_ne hij]
theorem wipe_wipe (vs : List Nat) (σ : L2.St) : wipe (wipe σ vs) vs = wipe σ vs := by
  refine List.ext_getElem? fun i => ?_
  rw [wipe_get, wipe_get, wipe_length]
  by_cases hi : i ∈ vs ∧ i < σ.length
  · rw [if_pos hi, if_pos hi]
  · rw [if_neg hi]
theorem wipe_sets {vs : List Nat} : ∀ {js : List Nat} {xs : List V} {σ : L2.St}, (∀ j ∈ js, j ∈ vs) → wipe (setsV σ js xs) vs = wipe σ vs
  | [], _, _, _ => by simp [setsV]
  | j :: js, [], _, _ => by simp [setsV]
  | j :: js, x :: xs, σ, h => by
    rw [setsV, wipe_sets (fun k hk => h k (List.mem_cons_of_mem _ hk)), wipe_set (h j (List.mem_cons_self ..))]
theorem wipe_er {vs : List Nat} (er : ER K ι H σ ρ) : ERx K ι H (wipe σ vs) ρ (· ∈ vs) := by
  refine ⟨by rw [wipe_length]; exact er.1, fun i d nb e => ?_⟩
  obtain ⟨v, e1, r⟩ := er.2 i d e
  refine ⟨v, ?_, r⟩
  rw [wipe_get, if_neg (fun h => nb h.1)]
  exact e1
/-! ### an object that is no cell is written -/
mutual
theorem RV.keep (ht : ∀ a xs, SqT K H a xs → SqT K H' a xs) (hf : ∀ a xs, Frl K H a xs → Frl K H' a xs) : ∀ {v : V} {d : D}, RV K ι H v d → RV K ι H' v d
  | _, _, .non => .non
  | _, _, .bl b => .bl b
  | _, _, .int b => .int b
  | _, _, .str b => .str b
  | _, _, .tup h hs => .tup (ht _ _ h) (RVs.keep ht hf hs)
  | _, _, .ref e => .ref e
  | _, _, .frl h hs => .frl (hf _ _ h) (RVs.keep ht hf hs)
theorem RVs.keep (ht : ∀ a xs, SqT K H a xs → SqT K H' a xs) (hf : ∀ a xs, Frl K H a xs → Frl K H' a xs) : ∀ {vs : List V} {ds : List D}, RVs K ι H vs ds → RVs K ι H' vs ds
  | _, _, .nil => .nil
  | _, _, .cons h hs => .cons (RV.keep ht hf h) (RVs.keep ht hf hs)
end
/-- a thing that is no tuple and not known -/
def Plain (o : HO) : Prop := (∀ xs, o ≠ .tup xs) ∧ ∀ ob u, o ≠ .frz ob u
theorem sqT_upd {a b : Addr} {o u : HO} {xs : List V} (hb : H b = some o) (po : Plain o) (h : SqT K H a xs) : SqT K (upd H b u) a xs := by
  rcases h with (h | ⟨ob, h⟩) | h
  · exact .inl (.inl (by rw [upd_ne (fun e => by rw [e, hb] at h; exact po.1 _ (Option.some.inj h))]; exact h))
  · exact .inl (.inr ⟨ob, by rw [upd_ne (fun e => by rw [e, hb] at h; exact po.2 _ _ (Option.some.inj h))]; exact h⟩)
  · exact .inr h
theorem frl_upd {a b : Addr} {o u : HO} {xs : List V} (hb : H b = some o) (po : Plain o) (h : Frl K H a xs) : Frl K (upd H b u) a xs := by
  rcases h with ⟨ob, h⟩ | h
  · exact .inl ⟨ob, by rw [upd_ne (fun e => by rw [e, hb] at h; exact po.2 _ _ (Option.some.inj h))]; exact h⟩
  · exact .inr h
theorem RV.upd {b : Addr} {o u : HO} (hb : H b = some o) (po : Plain o) {v : V} {d : D} (h : RV K ι H v d) : RV K ι (upd H b u) v d := h.keep (fun _ _ => sqT_upd hb po) fun _ _ => frl_upd hb po
theorem RVs.upd {b : Addr} {o u : HO} (hb : H b = some o) (po : Plain o) {v : List V} {d : List D} (h : RVs K ι H v d) : RVs K ι (L2.upd H b u) v d := h.keep (fun _ _ => sqT_upd hb po) fun _ _ => frl_upd hb po
theorem HR.updD {b : Addr} {o u : HO} (r : HR P w K ι G H) (hb : H b = some o) (po : Plain o) (nb : b ∉ ι) : HR P w K ι G (L2.upd H b u) := by
  refine ⟨r.len, r.nd, fun n c a e1 e2 => ?_⟩
  have hab : a ≠ b := fun e => nb (e ▸ List.mem_iff_getElem?.mpr ⟨n, e2⟩)
  have h := r.cell n c a e1 e2
  cases c with
  | lst ds => obtain ⟨xs, h1, h2⟩ := h; exact ⟨xs, by rw [upd_ne hab]; exact h1, h2.upd hb po⟩
  | dct t kvs =>
    cases t with
    | false => obtain ⟨ks, h1, h2⟩ := h; exact ⟨ks, by rw [upd_ne hab]; exact h1, L2.Paired.mapP h2 fun _ _ q => ⟨q.1.upd hb po, q.2.upd hb po⟩⟩
    | true =>
      obtain ⟨ks, h1, h3, h2⟩ := h
      exact ⟨ks, by rw [upd_ne hab]; exact h1, h3, L2.Paired.mapP h2 fun _ _ q => ⟨q.1, q.2.1, q.2.2.1, q.2.2.2.1.upd hb po, let ⟨y, y1, y2⟩ := q.2.2.2.2; ⟨y, y1, y2.upd hb po⟩⟩⟩
  | set ds => exact h.elim
theorem Fr2.upF {b : Addr} {u : HO} (f : Fr2 ι H ι' H') (hb : H b = none) : Fr2 ι H ι' (upd H' b u) :=
  ⟨f.pre, f.fresh, fun a o e hx => by rw [upd_ne (ne_of_none e hb)]; exact f.ext a o e hx⟩
theorem plain_lst {xs : List V} : Plain (.lst xs) := ⟨fun _ h => (nomatch h), fun _ _ h => (nomatch h)⟩
theorem plain_dK {xs : List (Key × V)} : Plain (.dK xs) := ⟨fun _ h => (nomatch h), fun _ _ h => (nomatch h)⟩
end
def WX : WT := fun _ _ _ => False
section
variable {X : Cx} {XC : XCT} {W : WT} {α β γ δ : Type} {Rel : Hp → List Addr → Hp → β → α → Prop} {Rel2 : Hp → List Addr → Hp → δ → γ → Prop}
  {σ : L2.St} {ι ι0 : List Addr} {ρ : Env} {G : Hpp} {H H0 : Hp}
theorem stepN {f : Env → Hpp → Res α} {QQ : γ → List Addr → Hpp → Hp → δ → Prop} {k : α → Hpp → Res γ} (hr : HR X.prog X.w X.K ι G H) (er : ER X.K ι H σ ρ) (h : Post X.prog X.w X.K Rel2 XC W ι0 H0 QQ ((noEx (f ρ G)).bind k)) :
    tX X XC WX Rel f σ H (fun v H1 => ∃ a ι1 G1, Fr2 ι H ι1 H1 ∧ HR X.prog X.w X.K ι1 G1 H1 ∧ ER X.K ι1 H1 σ ρ ∧ Rel H ι1 H1 v a ∧ Post X.prog X.w X.K Rel2 XC W ι0 H0 QQ (k a G1)) := by
  refine ⟨ι, ρ, G, hr, er, ?_⟩
  cases e : f ρ G with
  | ok a G1 => rw [e] at h; exact fun ι1 H1 v f1 r1 q => ⟨a, ι1, G1, f1, r1, er.go hr f1, q, h⟩
  | ex _ _ _ => rw [e] at h; exact h.elim
  | bad => rw [e] at h; exact h.elim
theorem stepND {f : Env → Hpp → Res R} {QQ : γ → List Addr → Hpp → Hp → δ → Prop} {k : D → Hpp → Res γ} (hr : HR X.prog X.w X.K ι G H) (er : ER X.K ι H σ ρ) (h : Post X.prog X.w X.K Rel2 XC W ι0 H0 QQ ((noEx ((f ρ G).bind toD)).bind k)) :
    tR X XC WX f σ H (fun v H1 => ∃ d ι1 G1, Fr2 ι H ι1 H1 ∧ HR X.prog X.w X.K ι1 G1 H1 ∧ ER X.K ι1 H1 σ ρ ∧ RV X.K ι1 H1 v d ∧ Post X.prog X.w X.K Rel2 XC W ι0 H0 QQ (k d G1)) := by
  refine ⟨ι, ρ, G, hr, er, ?_⟩
  cases e : f ρ G with
  | ok r G1 =>
    rw [e] at h
    intro ι1 H1 v f1 r1 q1
    obtain ⟨d, G2, ι2, e3, hr2, q2, p2, n2, up, _, _⟩ := bindD r1 q1
    simp only [Res.bind, e3] at h
    exact ⟨d, ι2, G2, f1.bound p2 n2, hr2, ER.up up (er.go hr f1), q2, h⟩
  | ex _ _ _ => rw [e] at h; exact h.elim
  | bad => rw [e] at h; exact h.elim
/-- the wish of a list comprehension -/
theorem lc_wish {tg : Tg} {fI : Env → Hpp → Res Walk} {fT : Env → Hpp → Res Bool} {fE : Env → Hpp → Res R} {vs : List Nat} {Q : VK} (h1 : ∀ j ∈ vs, j ∈ tg.sl) (h2 : ∀ j ∈ tg.sl, j ∈ vs)
    (h : tR X XC W (fun ρ G => (fI ρ G).bind fun w G1 => (compF (compV tg fT fE ρ) w (w.size G1 + 1) 0 [] G1).bind fun ds G2 => .ok (.newL ds) G2) σ H Q) :
    tLc (tI X XC W fI) (gOf X.K tg) (tX X XC WX RelB fT) (tR X XC WX fE) vs σ H Q := by
  obtain ⟨ι, ρ, G, hr, er, h⟩ := h
  obtain ⟨ι', ρ', G', hr', er', h'⟩ := step (Rel := RelW X) hr er h
  refine ⟨ι', ρ', G', hr', er', h'.imp fun _ _ _ H1 J ⟨wk, ι1, G1, f1, hr1, er1, hwr, hp⟩ Dd hD => ?_⟩
  have hHD : H Dd = none := Fr2.back hr1 f1 hD
  refine ⟨fun i m H' => ∃ ι' G' acc xs, Fr2 ι1 H1 ι' H' ∧ HR X.prog X.w X.K ι' G' H' ∧ H' Dd = some (.lst xs) ∧ RVs X.K ι' H' xs acc ∧ Dd ∉ ι' ∧
    Post X.prog X.w X.K (RR X.prog X.w X.K) XC W ι H (fun _ _ _ H' v => Q v H') ((compF (compV tg fT fE ρ) wk m i acc G').bind fun ds G2 => .ok (.newL ds) G2),
    ⟨_, ι1, G1, [], [], Fr2.laid hD, hr1.laid hD, upd_same, .nil, hr1.notin hD, hp⟩, ?_⟩
  rintro i m H' ⟨ι', G', acc, xs, f1', hr', hD', rv', nD, hp⟩
  cases m with
  | zero => exact hp.elim
  | succ n =>
    have hJ := hwr ι' G' H' f1' hr' i
    simp only [compF] at hp
    cases ei : wk.item i G' with
    | stop =>
      rw [ei] at hp hJ
      exact .inl ⟨hJ, hp ι' H' (.ref Dd) (f1.trans hr1 f1') hr' ⟨Dd, xs, rfl, hD', rv', hHD, nD⟩⟩
    | bad => rw [ei] at hp; exact hp.elim
    | yld d =>
      rw [ei] at hp hJ
      obtain ⟨hgo, hy⟩ := hJ
      refine .inr ⟨hgo, _, fun H2 z => ⟨n, Nat.lt_succ_self _, z⟩, fun x H2 y => ?_⟩
      obtain ⟨f2, hr2, rx⟩ := hy x H2 y
      have f2' : Fr2 ι1 H1 ι' H2 := f1'.trans hr' f2
      cases eb : bindTg tg d ρ with
      | none => simp only [compV, eb, bdB] at hp; exact hp.elim
      | some ρ1 =>
        simp only [compV, eb, Res.bind_assoc] at hp
        refine bind_ok eb rx (wipe_er (vs := vs) (er1.go hr1 f2')) fun σ' hσ er' => ?_
        have er2 : ER X.K ι' H2 σ' ρ1 := er'.er fun j hj => hj.2 (h1 j hj.1)
        obtain ⟨zs, rfl⟩ := hσ
        refine ⟨by rw [wipe_sets h2, wipe_wipe], ?_⟩
        obtain ⟨ιa, ρa, Ga, hra, era, ha⟩ := stepN (Rel := RelB) hr2 er2 hp
        refine ⟨ιa, ρa, Ga, hra, era, ha.imp fun _ _ _ H3 b ⟨b', ι3, G3, f3, hr3, er3, eqb, h3⟩ => ?_⟩
        have eqb : b = b' := eqb
        subst eqb
        have f3' : Fr2 ι1 H1 ι3 H3 := f2'.trans hr2 f3
        have hD3 : H3 Dd = some (.lst xs) := f3.ext _ _ (f2.ext _ _ hD' nD) nD
        have nD3 : Dd ∉ ι3 := f3.notin (f2.ext _ _ hD' nD) nD
        have rv3 : RVs X.K ι3 H3 xs acc := (rv'.go hr' f2).go hr2 f3
        cases b with
        | false =>
          simp only [Bool.false_eq_true, if_false, okB] at h3 ⊢
          exact ⟨ι3, G3, acc, xs, f3', hr3, hD3, rv3, nD3, h3⟩
        | true =>
          simp only [if_true, Res.bind_assoc] at h3 ⊢
          obtain ⟨ιb, ρb, Gb, hrb, erb, hb⟩ := stepND hr3 er3 h3
          refine ⟨ιb, ρb, Gb, hrb, erb, hb.imp fun _ _ _ H4 yv ⟨dd, ι4, G4, f4, hr4, er4, ry, h4⟩ => ?_⟩
          simp only [okB] at h4
          split at h4
          · rename_i hlim
            have hD4 : H4 Dd = some (.lst xs) := f4.ext _ _ hD3 nD3
            have nD4 : Dd ∉ ι4 := f4.notin hD3 nD3
            have rv4 : RVs X.K ι4 H4 xs acc := rv3.go hr3 f4
            refine ⟨xs, hD4, ?_, ι4, G4, acc ++ [dd], xs ++ [yv], (f3'.trans hr3 f4).upF hD, hr4.updD hD4 plain_lst nD4, upd_same, (rv4.upd hD4 plain_lst).append (.cons (ry.upd hD4 plain_lst) .nil), nD4, h4⟩
            rw [rv4.length]
            exact Nat.lt_of_lt_of_le hlim lim_line
          · exact h4.elim
/-- .. of a dict comprehension -/
theorem dc_wish {tg : Tg} {fI : Env → Hpp → Res Walk} {fT : Env → Hpp → Res Bool} {fK fE : Env → Hpp → Res R} {vs : List Nat} {Q : VK} (h1 : ∀ j ∈ vs, j ∈ tg.sl) (h2 : ∀ j ∈ tg.sl, j ∈ vs)
    (h : tR X XC W (fun ρ G => (fI ρ G).bind fun w G1 => (dcompF (dcompV tg fT fK fE ρ) w (w.size G1 + 1) 0 [] G1).bind fun ds G2 => .ok (.newD false ds) G2) σ H Q) :
    tDc (tI X XC W fI) (gOf X.K tg) (tX X XC WX RelB fT) (tR X XC WX fK) (tR X XC WX fE) vs σ H Q := by
  obtain ⟨ι, ρ, G, hr, er, h⟩ := h
  obtain ⟨ι', ρ', G', hr', er', h'⟩ := step (Rel := RelW X) hr er h
  refine ⟨ι', ρ', G', hr', er', h'.imp fun _ _ _ H1 J ⟨wk, ι1, G1, f1, hr1, er1, hwr, hp⟩ Dd hD => ?_⟩
  have hHD : H Dd = none := Fr2.back hr1 f1 hD
  refine ⟨fun i m H' => ∃ ι' G' acc ks, Fr2 ι1 H1 ι' H' ∧ HR X.prog X.w X.K ι' G' H' ∧ H' Dd = some (.dK ks) ∧ Paired (fun (q : Key × V) (p : D × D) => RV X.K ι' H' (kV q.1) p.1 ∧ RV X.K ι' H' q.2 p.2) ks acc ∧ Dd ∉ ι' ∧
    Post X.prog X.w X.K (RR X.prog X.w X.K) XC W ι H (fun _ _ _ H' v => Q v H') ((dcompF (dcompV tg fT fK fE ρ) wk m i acc G').bind fun ds G2 => .ok (.newD false ds) G2),
    ⟨_, ι1, G1, [], [], Fr2.laid hD, hr1.laid hD, upd_same, .nil, hr1.notin hD, hp⟩, ?_⟩
  rintro i m H' ⟨ι', G', acc, ks, f1', hr', hD', rv', nD, hp⟩
  cases m with
  | zero => exact hp.elim
  | succ n =>
    have hJ := hwr ι' G' H' f1' hr' i
    simp only [dcompF] at hp
    cases ei : wk.item i G' with
    | stop =>
      rw [ei] at hp hJ
      exact .inl ⟨hJ, hp ι' H' (.ref Dd) (f1.trans hr1 f1') hr' ⟨Dd, rfl, ⟨ks, hD', rv'⟩, hHD, nD⟩⟩
    | bad => rw [ei] at hp; exact hp.elim
    | yld d =>
      rw [ei] at hp hJ
      obtain ⟨hgo, hy⟩ := hJ
      refine .inr ⟨hgo, _, fun H2 z => ⟨n, Nat.lt_succ_self _, z⟩, fun x H2 y => ?_⟩
      obtain ⟨f2, hr2, rx⟩ := hy x H2 y
      have f2' : Fr2 ι1 H1 ι' H2 := f1'.trans hr' f2
      cases eb : bindTg tg d ρ with
      | none => simp only [dcompV, eb, bdB] at hp; exact hp.elim
      | some ρ1 =>
        simp only [dcompV, eb, Res.bind_assoc] at hp
        refine bind_ok eb rx (wipe_er (vs := vs) (er1.go hr1 f2')) fun σ' hσ er' => ?_
        have er2 : ER X.K ι' H2 σ' ρ1 := er'.er fun j hj => hj.2 (h1 j hj.1)
        obtain ⟨zs, rfl⟩ := hσ
        refine ⟨by rw [wipe_sets h2, wipe_wipe], ?_⟩
        obtain ⟨ιa, ρa, Ga, hra, era, ha⟩ := stepN (Rel := RelB) hr2 er2 hp
        refine ⟨ιa, ρa, Ga, hra, era, ha.imp fun _ _ _ H3 b ⟨b', ι3, G3, f3, hr3, er3, eqb, h3⟩ => ?_⟩
        have eqb : b = b' := eqb
        subst eqb
        have f3' : Fr2 ι1 H1 ι3 H3 := f2'.trans hr2 f3
        have hD3 : H3 Dd = some (.dK ks) := f3.ext _ _ (f2.ext _ _ hD' nD) nD
        have nD3 : Dd ∉ ι3 := f3.notin (f2.ext _ _ hD' nD) nD
        have go : ∀ {ιx ιy : List Addr} {Gx : Hpp} {Hx Hy : Hp}, HR X.prog X.w X.K ιx Gx Hx → Fr2 ιx Hx ιy Hy → Paired (fun (q : Key × V) (p : D × D) => RV X.K ιx Hx (kV q.1) p.1 ∧ RV X.K ιx Hx q.2 p.2) ks acc → Paired (fun (q : Key × V) (p : D × D) => RV X.K ιy Hy (kV q.1) p.1 ∧ RV X.K ιy Hy q.2 p.2) ks acc :=
          fun r f h => L2.Paired.mapP h fun _ _ q => ⟨q.1.go r f, q.2.go r f⟩
        have rv3 := go hr2 f3 (go hr' f2 rv')
        cases b with
        | false =>
          simp only [Bool.false_eq_true, if_false, okB] at h3 ⊢
          exact ⟨ι3, G3, acc, ks, f3', hr3, hD3, rv3, nD3, h3⟩
        | true =>
          simp only [if_true, Res.bind_assoc] at h3 ⊢
          obtain ⟨ιb, ρb, Gb, hrb, erb, hb⟩ := stepND hr3 er3 h3
          refine ⟨ιb, ρb, Gb, hrb, erb, hb.imp fun _ _ _ H4 yv ⟨dk, ι4, G4, f4, hr4, er4, ry, h4⟩ => ?_⟩
          have hD4 : H4 Dd = some (.dK ks) := f4.ext _ _ hD3 nD3
          have nD4 : Dd ∉ ι4 := f4.notin hD3 nD3
          obtain ⟨ιc, ρc, Gc, hrc, erc, hc⟩ := stepND hr4 er4 h4
          refine ⟨ιc, ρc, Gc, hrc, erc, hc.imp fun _ _ _ H5 zv ⟨dv, ι5, G5, f5, hr5, er5, rz, h5⟩ => ?_⟩
          simp only [okB] at h5
          split at h5
          · rename_i hlim
            have hD5 : H5 Dd = some (.dK ks) := f5.ext _ _ hD4 nD4
            have nD5 : Dd ∉ ι5 := f5.notin hD4 nD4
            have rv5 := go hr4 f5 (go hr3 f4 rv3)
            have ry5 := ry.go hr4 f5
            obtain ⟨k, rfl⟩ := key_of hlim.1 ry5
            refine ⟨ks, k, rfl, hD5, ?_, ι5, G5, dput acc dk dv, _, ((f3'.trans hr3 f4).trans hr4 f5).upF hD, hr5.updD hD5 plain_dK nD5, upd_same, L2.Paired.mapP (put_k ry5 rz rv5) fun _ _ q => ⟨q.1.upd hD5 plain_dK, q.2.upd hD5 plain_dK⟩, nD5, h5⟩
            rw [Paired.length rv5]
            exact Nat.lt_of_lt_of_le hlim.2 lim_line
          · exact h5.elim
end
end LK

set_option Elab.async false
set_option linter.all false
set_option autoImplicit false
set_option maxRecDepth 100000
set_option maxHeartbeats 4000000
/-! LkStm: statements. -/
namespace LK
open PySem PySem.Spec PyProof.Rows L2

section
variable (X : Cx) (XC : XCT) (W : WT)
def PostF (ι : List Addr) (H : Hp) (D : Ends) : Fl → Prop
  | .nx ρ G' => ∀ ι' H' σ', Fr2 ι H ι' H' → HR X.prog X.w X.K ι' G' H' → ER X.K ι' H' σ' ρ → D.nx σ' H'
  | .bk ρ G' => ∀ ι' H' σ', Fr2 ι H ι' H' → HR X.prog X.w X.K ι' G' H' → ER X.K ι' H' σ' ρ → D.bk σ' H'
  | .ct ρ G' => ∀ ι' H' σ', Fr2 ι H ι' H' → HR X.prog X.w X.K ι' G' H' → ER X.K ι' H' σ' ρ → D.ct σ' H'
  | .rt d G' => ∀ ι' H' v, Fr2 ι H ι' H' → HR X.prog X.w X.K ι' G' H' → RV X.K ι' H' v d → D.rt v H'
  | .ex c d _ G' => ∀ ι' H' cls dd, Fr2 ι H ι' H' → HR X.prog X.w X.K ι' G' H' → XC c d ι' H' cls dd → W cls dd H'
  | .bad => False
abbrev tS (f : Env → Hpp → Fl) : TS := fun D σ H => ∃ ι ρ G, HR X.prog X.w X.K ι G H ∧ ER X.K ι H σ ρ ∧ PostF X XC W ι H D (f ρ G)
end
section
variable {X : Cx} {XC : XCT} {W : WT} {α β γ δ : Type} {Rel : Hp → List Addr → Hp → β → α → Prop}
  {σ : L2.St} {ι ι1 : List Addr} {ρ : Env} {G G1 : Hpp} {H H1 : Hp} {En : Ends}
theorem PostF.shift {r : Fl} (hr : HR X.prog X.w X.K ι1 G1 H1) (f : Fr2 ι H ι1 H1) (h : PostF X XC W ι H En r) : PostF X XC W ι1 H1 En r := by
  cases r with
  | nx ρ G' => exact fun ι' H' σ' f' hr' er' => h ι' H' σ' (f.trans hr f') hr' er'
  | bk ρ G' => exact fun ι' H' σ' f' hr' er' => h ι' H' σ' (f.trans hr f') hr' er'
  | ct ρ G' => exact fun ι' H' σ' f' hr' er' => h ι' H' σ' (f.trans hr f') hr' er'
  | rt d G' => exact fun ι' H' σ' f' hr' er' => h ι' H' σ' (f.trans hr f') hr' er'
  | ex c d ρ G' => exact fun ι' H' cls dd f' hr' er' => h ι' H' cls dd (f.trans hr f') hr' er'
  | bad => exact h
theorem stepF {f : Env → Hpp → Res α} {k : α → Hpp → Fl} {ρ0 : Env} (hr : HR X.prog X.w X.K ι G H) (er : ER X.K ι H σ ρ) (h : PostF X XC W ι H En (resF (f ρ G) ρ0 k)) :
    tX X XC W Rel f σ H (fun v H1 => ∃ a ι1 G1, Fr2 ι H ι1 H1 ∧ HR X.prog X.w X.K ι1 G1 H1 ∧ ER X.K ι1 H1 σ ρ ∧ Rel H ι1 H1 v a ∧ PostF X XC W ι1 H1 En (k a G1)) := by
  refine ⟨ι, ρ, G, hr, er, ?_⟩
  cases e : f ρ G with
  | ok a G1 => rw [e] at h; exact fun ι1 H1 v f1 r1 q => ⟨a, ι1, G1, f1, r1, er.go hr f1, q, PostF.shift r1 f1 h⟩
  | ex c d G1 => rw [e] at h; exact h
  | bad => rw [e] at h; exact h.elim
theorem stepFD {f : Env → Hpp → Res R} {k : LK.D → Hpp → Fl} {ρ0 : Env} (hr : HR X.prog X.w X.K ι G H) (er : ER X.K ι H σ ρ) (h : PostF X XC W ι H En (resF ((f ρ G).bind toD) ρ0 k)) :
    tR X XC W f σ H (fun v H1 => ∃ a ι1 G1, Fr2 ι H ι1 H1 ∧ HR X.prog X.w X.K ι1 G1 H1 ∧ ER X.K ι1 H1 σ ρ ∧ RV X.K ι1 H1 v a ∧ PostF X XC W ι1 H1 En (k a G1)) := by
  refine ⟨ι, ρ, G, hr, er, ?_⟩
  cases e : f ρ G with
  | ok r G1 =>
    rw [e] at h
    intro ι1 H1 v f1 r1 q1
    obtain ⟨d, G2, ι2, e3, hr2, q2, p2, n2, up, _, _⟩ := bindD r1 q1
    rw [okB, e3] at h
    have f2 := f1.bound p2 n2
    exact ⟨d, ι2, G2, f2, hr2, ER.up up (er.go hr f1), q2, PostF.shift hr2 f2 h⟩
  | ex c d G1 => rw [e] at h; exact h
  | bad => rw [e] at h; exact h.elim
variable {a b c e : Expr} {fa fb fc fe : Env → Hpp → Res R} {fs : Env → Hpp → Res (List LK.D)} {pos : Pos} {st : Stmt} {rest body : List Stmt} {f g : Env → Hpp → Fl}
theorem PS.imp {t t' : TS} (h : PS X st t) (hi : ∀ D σ H, t' D σ H → t D σ H) : PS X st t' := ⟨fun pins s σ H D I q => h.run pins s σ H D I (hi D σ H q)⟩
theorem PSs.imp {t t' : TS} (h : PSs X rest t) (hi : ∀ D σ H, t' D σ H → t D σ H) : PSs X rest t' := ⟨fun pins s σ H D I q => h.run pins s σ H D I (hi D σ H q)⟩
theorem s_nil : PSs X [] (tS X XC W fun ρ G => .nx ρ G) := PSs.imp pss_nil fun D σ H ⟨ι, ρ, G, hr, er, h⟩ => h ι H σ .refl hr er
theorem s_cons (h1 : PS X st (tS X XC W f)) (h2 : PSs X rest (tS X XC W g)) : PSs X (st :: rest) (tS X XC W fun ρ G => match f ρ G with
    | .nx ρ1 G1 => g ρ1 G1
    | o => o) := PSs.imp (pss_cons h1 h2) fun D σ H ⟨ι, ρ, G, hr, er, h⟩ => by
  refine ⟨ι, ρ, G, hr, er, ?_⟩
  dsimp only at h
  cases e : f ρ G with
  | nx ρ1 G1 => rw [e] at h; exact fun ι1 H1 σ1 f1 hr1 er1 => ⟨ι1, ρ1, G1, hr1, er1, PostF.shift hr1 f1 h⟩
  | bk ρ1 G1 => rw [e] at h; exact h
  | ct ρ1 G1 => rw [e] at h; exact h
  | rt d G1 => rw [e] at h; exact h
  | ex c d ρ1 G1 => rw [e] at h; exact h
  | bad => rw [e] at h; exact h
theorem s_pass : PS X (.Pass pos) (tS X XC W fun ρ G => .nx ρ G) := PS.imp ps_pass fun D σ H ⟨ι, ρ, G, hr, er, h⟩ => h ι H σ .refl hr er
theorem s_brk : PS X (.Break pos) (tS X XC W fun ρ G => .bk ρ G) := PS.imp ps_break fun D σ H ⟨ι, ρ, G, hr, er, h⟩ => h ι H σ .refl hr er
theorem s_cnt : PS X (.Continue pos) (tS X XC W fun ρ G => .ct ρ G) := PS.imp ps_continue fun D σ H ⟨ι, ρ, G, hr, er, h⟩ => h ι H σ .refl hr er
theorem s_retN : PS X (.Return none pos) (tS X XC W fun _ G => .rt .non G) := PS.imp ps_retN fun D σ H ⟨ι, ρ, G, hr, er, h⟩ => h ι H .non .refl hr .non
theorem s_ret (he : PE X e (tR X XC W fe)) : PS X (.Return (some e) pos) (tS X XC W fun ρ G => resF ((fe ρ G).bind toD) ρ fun d G1 => .rt d G1) :=
  PS.imp (ps_ret he) fun D σ H ⟨ι, ρ, G, hr, er, h⟩ => by
    obtain ⟨ι', ρ', G', hr', er', h'⟩ := stepFD hr er h
    exact ⟨ι', ρ', G', hr', er', h'.imp fun _ _ _ H1 v ⟨d, ι1, G1, f1, hr1, er1, q1, h1⟩ => h1 ι1 H1 v .refl hr1 q1⟩
theorem s_expr (he : PE X e (tR X XC W fe)) (hs : swapsWith e none pos.line X.env = pure false) : PS X (.Expr e pos) (tS X XC W fun ρ G => resF (fe ρ G) ρ fun _ G1 => .nx ρ G1) :=
  PS.imp (ps_expr he hs) fun D σ H ⟨ι, ρ, G, hr, er, h⟩ => by
    obtain ⟨ι', ρ', G', hr', er', h'⟩ := stepF (Rel := RR X.prog X.w X.K) hr er h
    exact ⟨ι', ρ', G', hr', er', h'.imp fun _ _ _ H1 v ⟨d, ι1, G1, f1, hr1, er1, q1, h1⟩ => h1 ι1 H1 σ .refl hr1 er1⟩
theorem ER.set (h : ER X.K ι H σ ρ) (j : Nat) {v : V} {d : LK.D} (r : RV X.K ι H v d) : ER X.K ι H (σ.set j (some v)) (ρ.set j (some d)) := (ERx.set (bad := fun _ => False) (ER.x h) j r).er fun i hi => hi.1
theorem s_set {i : Nat} {x : Str} {pos' : Pos} (hN : X.N.Nodup) (hi : X.N[i]? = some x) (hx : Loc X.env.scope x) (hf : X.fn x = true ∨ X.env.scope.names.lookup x = some .local) (he : PE X e (tR X XC W fe)) (hs : swapsWith e (some (.Name x pos')) pos.line X.env = pure false) :
    PS X (.Assign [.Name x pos'] e pos) (tS X XC W fun ρ G => resF ((fe ρ G).bind toD) ρ fun d G1 => .nx (ρ.set i (some d)) G1) :=
  PS.imp (ps_set hN hi hx he hs hf) fun D σ H ⟨ι, ρ, G, hr, er, h⟩ => by
    obtain ⟨ι', ρ', G', hr', er', h'⟩ := stepFD hr er h
    exact ⟨ι', ρ', G', hr', er', h'.imp fun _ _ _ H1 v ⟨d, ι1, G1, f1, hr1, er1, q1, h1⟩ => h1 ι1 H1 _ .refl hr1 (er1.set i q1)⟩
theorem s_setLc {i : Nat} {y : Str} {py : Pos} {elt tg iter : Expr} {ifs : List Expr} {scope : Scope} {own : List (Str × Nat)} {spos : Pos} {tgt : Tg} {fI : Env → Hpp → Res Walk} {fT : Env → Hpp → Res Bool} (hc : X.calm = true) (hN : X.N.Nodup) (hy : X.N[i]? = some y) (hyl : X.env.scope.names.lookup y = some .local)
    (hsw : swapsWith (.ListComp elt [⟨tg, iter, ifs, 0⟩] scope pos) (some (.Name y py)) spos.line X.env = pure true) (hi : PI X tg iter (tI X XC W fI)) (ok : BlkOk X.N X.env.scope scope own) (h1 : ∀ j ∈ own.map (·.2), j ∈ tgt.sl) (h2 : ∀ j ∈ tgt.sl, j ∈ own.map (·.2))
    (hg : ∀ (s : Shared) (H : Hp) (C : Addr) (cl : List (Str × Addr)) (fp : List Addr), PG (X.blk s H scope (compEnvC scope cl C X.env) fp) tg (gOf X.K tgt)) (ht : ∀ (s : Shared) (H : Hp) (C : Addr) (cl : List (Str × Addr)) (fp : List Addr), PTs (X.blk s H scope (compEnvC scope cl C X.env) fp) ifs (tX X XC WX RelB fT))
    (he : ∀ (s : Shared) (H : Hp) (C : Addr) (cl : List (Str × Addr)) (fp : List Addr), PE (X.blk s H scope (compEnvC scope cl C X.env) fp) elt (tR X XC WX fe)) (hs : ∀ x, foldedSetIterable iter X.env x = pure x) :
    PS X (.Assign [.Name y py] (.ListComp elt [⟨tg, iter, ifs, 0⟩] scope pos) spos) (tS X XC W fun ρ G => resF (((fI ρ G).bind fun w G1 => (compF (compV tgt fT fe ρ) w (w.size G1 + 1) 0 [] G1).bind fun ds G2 => .ok (.newL ds) G2).bind toD) ρ fun d G1 => .nx (ρ.set i (some d)) G1) :=
  PS.imp (ps_setLc hc hN hy hyl hsw hi ok hg ht he hs) fun D σ H ⟨ι, ρ, G, hr, er, h⟩ => by
    refine lc_wish h1 h2 ?_
    obtain ⟨ι', ρ', G', hr', er', h'⟩ := stepFD (f := fun ρ G => (fI ρ G).bind fun w G1 => (compF (compV tgt fT fe ρ) w (w.size G1 + 1) 0 [] G1).bind fun ds G2 => .ok (.newL ds) G2) hr er h
    exact ⟨ι', ρ', G', hr', er', h'.imp fun _ _ _ H1 v ⟨d, ι1, G1, f1, hr1, er1, q1, h1⟩ => h1 ι1 H1 _ .refl hr1 (er1.set i q1)⟩
theorem s_setT {js : List Nat} {tgE : Expr} (he : PE X e (tR X XC W fe)) (hg : PG X tgE (gOf X.K (.many js))) (hs : swapsWithSole [tgE] e pos.line X.env = pure false) (hw : swappedStores [tgE] e X.env = pure none)
    (h1 : (assignEach [tgE] X.env).map (·.2) = [assign tgE X.env]) : PS X (.Assign [tgE] e pos) (tS X XC W fun ρ G => resF (fe ρ G) ρ fun x G1 => match x with
    | .val (.tup ds) => match setSlots ρ js ds with
      | some ρ1 => .nx ρ1 G1
      | none => .bad
    | _ => .bad) :=
  PS.imp (ps_asg he hg hs hw h1) fun D σ H ⟨ι, ρ, G, hr, er, h⟩ => by
    obtain ⟨ι', ρ', G', hr', er', h'⟩ := stepF (Rel := RR X.prog X.w X.K) hr er h
    refine ⟨ι', ρ', G', hr', er', h'.imp fun _ _ _ H1 v ⟨x, ι1, G1, f1, hr1, er1, q1, h1⟩ => ?_⟩
    try dsimp only at h1
    split at h1
    · split at h1
      · rename_i ds _ ρ1 eb
        exact bind_ok (tg := .many js) (d := .tup ds) (bad := fun _ => False) eb q1 (ER.x er1) fun σ' _ er' => h1 ι1 H1 σ' .refl hr1 (er'.er fun i hi => hi.1)
      · exact h1.elim
    · exact h1.elim
theorem s_par {i j : Nat} {x y : Str} {px py pt : Pos} {kt k2 pt2} (hc : X.calm = true) (hN : X.N.Nodup) (hi : X.N[i]? = some x) (hj : X.N[j]? = some y) (hij : i ≠ j)
    (hx : X.env.scope.names.lookup x = some .local) (hy : X.env.scope.names.lookup y = some .local) (ha : PA X [a, b] (tA X XC W fs))
    (hw : swappedStores [.Tuple [.Name x px, .Name y py] kt pt] (.Tuple [a, b] k2 pt2) X.env = pure (some [x, y]))
    (hs : swapsWithSole [.Tuple [.Name x px, .Name y py] kt pt] (.Tuple [a, b] k2 pt2) pos.line X.env = pure false) :
    PS X (.Assign [.Tuple [.Name x px, .Name y py] kt pt] (.Tuple [a, b] k2 pt2) pos) (tS X XC W fun ρ G => resF ((fs ρ G).bind fun ds G1 => okV (.tup ds) G1) ρ fun x G1 => match x with
    | .val (.tup ds) => match setSlots ρ [i, j] ds with
      | some ρ1 => .nx ρ1 G1
      | none => .bad
    | _ => .bad) :=
  PS.imp (ps_par hc hN hi hj hij hx hy ha hw hs) fun D σ H ⟨ι, ρ, G, hr, er, h⟩ => by
    have h : PostF X XC W ι H D (resF (fs ρ G) ρ fun ds G1 => match setSlots ρ [i, j] ds with
      | some ρ1 => .nx ρ1 G1
      | none => .bad) := by
      try dsimp only at h
      cases e : fs ρ G <;> rw [e] at h <;> exact h
    obtain ⟨ι', ρ', G', hr', er', h'⟩ := stepF (Rel := RelL X.K) hr er h
    refine ⟨ι', ρ', G', hr', er', h'.imp fun _ _ _ H1 vs ⟨ds, ι1, G1, f1, hr1, er1, q1, h1⟩ => ?_⟩
    try dsimp only at h1
    split at h1
    · rename_i ρ1 eb
      have hl := slots_len eb
      match ds, hl with
      | [d, e], _ =>
        cases q1 with
        | cons r1 q1 =>
          cases q1 with
          | cons r2 q1 =>
            cases q1
            simp only [setSlots, Option.some.injEq] at eb
            subst eb
            exact ⟨_, _, rfl, h1 ι1 H1 _ .refl hr1 ((er1.set i r1).set j r2)⟩
    · exact h1.elim
theorem s_par3 {i j l : Nat} {x y z : Str} {px py pz pt : Pos} {kt k2 pt2} (hc : X.calm = true) (hN : X.N.Nodup) (hi : X.N[i]? = some x) (hj : X.N[j]? = some y) (hl : X.N[l]? = some z) (hij : i ≠ j) (hil : i ≠ l) (hjl : j ≠ l)
    (hx : X.env.scope.names.lookup x = some .local) (hy : X.env.scope.names.lookup y = some .local) (hz : X.env.scope.names.lookup z = some .local) (ha : PA X [a, b, c] (tA X XC W fs))
    (hw : swappedStores [.Tuple [.Name x px, .Name y py, .Name z pz] kt pt] (.Tuple [a, b, c] k2 pt2) X.env = pure (some [x, y, z]))
    (hs : swapsWithSole [.Tuple [.Name x px, .Name y py, .Name z pz] kt pt] (.Tuple [a, b, c] k2 pt2) pos.line X.env = pure false) :
    PS X (.Assign [.Tuple [.Name x px, .Name y py, .Name z pz] kt pt] (.Tuple [a, b, c] k2 pt2) pos) (tS X XC W fun ρ G => resF ((fs ρ G).bind fun ds G1 => okV (.tup ds) G1) ρ fun x G1 => match x with
    | .val (.tup ds) => match setSlots ρ [i, j, l] ds with
      | some ρ1 => .nx ρ1 G1
      | none => .bad
    | _ => .bad) :=
  PS.imp (ps_par3 hc hN hi hj hl hij hil hjl hx hy hz ha hw hs) fun D σ H ⟨ι, ρ, G, hr, er, h⟩ => by
    have h : PostF X XC W ι H D (resF (fs ρ G) ρ fun ds G1 => match setSlots ρ [i, j, l] ds with
      | some ρ1 => .nx ρ1 G1
      | none => .bad) := by
      try dsimp only at h
      cases e : fs ρ G <;> rw [e] at h <;> exact h
    obtain ⟨ι', ρ', G', hr', er', h'⟩ := stepF (Rel := RelL X.K) hr er h
    refine ⟨ι', ρ', G', hr', er', h'.imp fun _ _ _ H1 vs ⟨ds, ι1, G1, f1, hr1, er1, q1, h1⟩ => ?_⟩
    try dsimp only at h1
    split at h1
    · rename_i ρ1 eb
      have hl := slots_len eb
      match ds, hl with
      | [d, e, u], _ =>
        cases q1 with
        | cons r1 q1 =>
          cases q1 with
          | cons r2 q1 =>
            cases q1 with
            | cons r3 q1 =>
              cases q1
              simp only [setSlots, Option.some.injEq] at eb
              subst eb
              exact ⟨_, _, _, rfl, h1 ι1 H1 _ .refl hr1 (((er1.set i r1).set j r2).set l r3)⟩
    · exact h1.elim
/-- o[i] = v, by values -/
def tPut (X : Cx) : TSet := fun o i v H Q => ∃ (ι : List Addr) (G : Hpp) (r q : R) (d : LK.D) (G' : Hpp) (H0 H1 : Hp), HR X.prog X.w X.K ι G H ∧ RR X.prog X.w X.K H0 ι H o r ∧ RR X.prog X.w X.K H1 ι H i q ∧ RV X.K ι H v d ∧ setIR r q d G = some G' ∧ ∀ H', Fr2 ι H ι H' → HR X.prog X.w X.K ι G' H' → Q H'
theorem put_ok (hu : X.A.units + 150 < cLine) : PSet X (tPut X) := fun pins s σ H o i v ov iv u Q I r1 r2 r3 ⟨ι, G, r, q, d, G', H0, H1, hr, q1, q2, q3, e, h⟩ =>
  setIR_ok hu I hr r1 r2 r3 q1 q2 q3 e fun H' s' I' f' hr' => ⟨H', I', h H' f' hr'⟩
theorem s_setI {o i : Expr} {fo fi : Env → Hpp → Res R} {spos : Pos} (hu : X.A.units + 150 < cLine) (he : PE X e (tR X XC W fe)) (ho : PE X o (tR X XC W fo)) (hi : PE X i (tR X XC W fi)) (hs : swapsWithSole [.Subscript o i spos] e pos.line X.env = pure false)
    (hw : swappedStores [.Subscript o i spos] e X.env = pure none) (ha : ∀ v, assign (.Subscript o i spos) X.env v = (do
      let ov ← holding [v] (eval o X.env)
      let iv ← holding [v, ov] (eval i X.env)
      standAt spos
      holding [v, ov, iv] (setItem ov iv v)
      release [v, ov, iv] [])) :
    PS X (.Assign [.Subscript o i spos] e pos) (tS X XC W fun ρ G => resF ((fe ρ G).bind toD) ρ fun d G1 => resF (fo ρ G1) ρ fun x G2 => resF (fi ρ G2) ρ fun y G3 => match setIR x y d G3 with
    | some G4 => .nx ρ G4
    | none => .bad) :=
  PS.imp (ps_asg he (pg_sub ho hi (put_ok hu) ha) hs hw) fun D σ H ⟨ι, ρ, G, hr, er, h⟩ => by
    obtain ⟨ι', ρ', G', hr', er', h'⟩ := stepFD hr er h
    refine ⟨ι', ρ', G', hr', er', h'.imp fun _ _ _ H1 v ⟨d, ι1, G1, f1, hr1, er1, q1, h1⟩ => ?_⟩
    obtain ⟨ι', ρ', G', hr', er', h'⟩ := stepF (Rel := RR X.prog X.w X.K) hr1 er1 h1
    refine ⟨ι', ρ', G', hr', er', h'.imp fun _ _ _ H2 vo ⟨x, ι2, G2, f2, hr2, er2, q2, h2⟩ => ?_⟩
    obtain ⟨ι', ρ', G', hr', er', h'⟩ := stepF (Rel := RR X.prog X.w X.K) hr2 er2 h2
    refine ⟨ι', ρ', G', hr', er', h'.imp fun _ _ _ H3 vi ⟨y, ι3, G3, f3, hr3, er3, q3, h3⟩ => ?_⟩
    try dsimp only at h3
    split at h3
    · rename_i G4 e4
      exact ⟨ι3, G3, x, y, d, G4, _, _, hr3, q2.go hr2 f3, q3, (q1.go hr1 f2).go hr2 f3, e4, fun H4 f4 hr4 => h3 ι3 H4 σ f4 hr4 (er3.go hr3 f4)⟩
    · exact h3.elim
/-- a op= b, of numbers -/
def tIpI (X : Cx) (XC : XCT) (W : WT) (op : Bop) : TIp := fun x y H Q => ∃ (ι : List Addr) (G : Hpp) (i j : Int), HR X.prog X.w X.K ι G H ∧ x = .int i ∧ y = .int j ∧ PRes X XC W ι H (fun _ _ _ H' v => Q v H') (binI op i j G)
theorem ipI_ok {op : Bop} (ho : op = .add ∨ op = .sub ∨ op = .mul) : PIp X op.op (tIpI X XC W op) := fun pins s σ H x y v u Q I r1 r2 ⟨ι, G, i, j, hr, e1, e2, h⟩ => by
  subst e1 e2
  exact thn (ibinI_ok I hr ho r1 r2 h) fun _ _ e => ep_of e
theorem s_aug {i : Nat} {x : Str} {op : Bop} {pos' : Pos} (hN : X.N.Nodup) (hi : X.N[i]? = some x) (hx : Loc X.env.scope x) (hf : X.fn x = true ∨ X.env.scope.names.lookup x = some .local) (ho : op = .add ∨ op = .sub ∨ op = .mul) (he : PE X e (tR X XC W fe)) :
    PS X (.AugAssign (.Name x pos') op.op e pos) (tS X XC W fun ρ G => match ρ[i]? with
    | some (some d) => resF (fe ρ G) ρ fun y G1 => match d, y with
      | .int a, .val (.int b) => resF ((binI op a b G1).bind toD) ρ fun z G2 => .nx (ρ.set i (some z)) G2
      | _, _ => .bad
    | _ => .bad) :=
  PS.imp (ps_aug hN hi hx he (ipI_ok ho) hf) fun D σ H ⟨ι, ρ, G, hr, er, h⟩ => by
    dsimp only at h
    split at h
    · rename_i d ed
      obtain ⟨v0, e0, rv0⟩ := er.2 i d ed
      refine ⟨v0, e0, ?_⟩
      obtain ⟨ι', ρ', G', hr', er', h'⟩ := stepF (Rel := RR X.prog X.w X.K) hr er h
      refine ⟨ι', ρ', G', hr', er', h'.imp fun _ _ _ H1 v ⟨y, ι1, G1, f1, hr1, er1, q1, h1⟩ => ?_⟩
      try dsimp only at h1
      split at h1
      · rename_i p q _
        cases rv_int rv0
        cases rv_int q1
        refine ⟨ι1, G1, p, q, hr1, rfl, rfl, ?_⟩
        cases eb : binI op p q G1 with
        | ok r G2 =>
          rw [eb] at h1
          intro ι2 H2 z f2 hr2 q2
          obtain ⟨d3, G3, ι3, e3, hr3, q3, p3, n3, up, _, _⟩ := bindD hr2 q2
          rw [okB, e3] at h1
          exact h1 ι3 H2 _ (f2.bound p3 n3) hr3 ((ER.up up (er1.go hr1 f2)).set i q3)
        | ex c d G2 => rw [eb] at h1; exact h1
        | bad => rw [eb] at h1; exact h1
      · exact h1.elim
    · exact h.elim
theorem s_if {p q : List Stmt} (hc : PT X c (tT X XC W fc)) (ha : PSs X p (tS X XC W f)) (hb : PSs X q (tS X XC W g)) : PS X (.If c p q pos) (tS X XC W fun ρ G => resF (fc ρ G) ρ fun x G1 => match x with
    | .val (.bl true) => f ρ G1
    | .val (.bl false) => g ρ G1
    | _ => .bad) :=
  PS.imp (ps_if hc ha hb) fun D σ H ⟨ι, ρ, G, hr, er, h⟩ => by
    have h : PostF X XC W ι H D (resF ((fc ρ G).bind asB) ρ fun b G1 => if b = true then f ρ G1 else g ρ G1) := by
      dsimp only at h
      cases e : fc ρ G with
      | ok x G1 =>
        rw [e] at h
        rw [okB]
        dsimp only [resF] at h
        split at h
        · exact h
        · exact h
        · exact h.elim
      | ex c d G1 => rw [e] at h; exact h
      | bad => rw [e] at h; exact h
    obtain ⟨ι', ρ', G', hr', er', h'⟩ := stepF (f := fun ρ G => (fc ρ G).bind asB) (Rel := RelB) hr er h
    refine ⟨ι', ρ', G', hr', er', h'.imp fun _ _ _ H1 v ⟨b, ι1, G1, f1, hr1, er1, q1, h1⟩ => ?_⟩
    have q1 : v = b := q1
    subst q1
    cases v with
    | true => exact ⟨ι1, ρ, G1, hr1, er1, h1⟩
    | false => exact ⟨ι1, ρ, G1, hr1, er1, h1⟩
theorem s_whl (hp : PassesOwn (model X.prog X.w) X.A X.env X.xe) (hc : PT X c (tT X XC W fc)) (hb : PSs X body (tS X XC W f)) {n : Nat} : PS X (.While c body [] pos) (tS X XC W fun ρ G => whileF (fun ρ1 G1 => fc ρ1 G1) (fun ρ1 G1 => f ρ1 G1) n ρ G) :=
  PS.imp (ps_while hp hc hb) fun D σ H ⟨ι, ρ, G, hr, er, h⟩ => by
    refine ⟨fun m σ' H' => ∃ ι' ρ' G', HR X.prog X.w X.K ι' G' H' ∧ ER X.K ι' H' σ' ρ' ∧ PostF X XC W ι' H' D (whileF (fun ρ1 G1 => fc ρ1 G1) (fun ρ1 G1 => f ρ1 G1) m ρ' G'), ⟨n, ι, ρ, G, hr, er, h⟩, ?_⟩
    rintro m σ' H' ⟨ι', ρ', G', hr', er', hp⟩
    cases m with
    | zero => exact hp.elim
    | succ m =>
      have hp : PostF X XC W ι' H' D (resF ((fc ρ' G').bind asB) ρ' fun b G1 => if b = true then (match f ρ' G1 with
        | .nx ρ1 G2 => whileF (fun ρ1 G1 => fc ρ1 G1) (fun ρ1 G1 => f ρ1 G1) m ρ1 G2
        | .ct ρ1 G2 => whileF (fun ρ1 G1 => fc ρ1 G1) (fun ρ1 G1 => f ρ1 G1) m ρ1 G2
        | .bk ρ1 G2 => .nx ρ1 G2
        | r => r) else .nx ρ' G1) := by
        simp only [whileF] at hp
        cases e : fc ρ' G' with
        | ok x G1 =>
          rw [e] at hp
          rw [okB]
          try dsimp only at hp
          cases x with
          | val d =>
            cases d with
            | bl b => cases b <;> exact hp
            | _ => exact hp.elim
          | _ => exact hp.elim
        | ex c d G1 => rw [e] at hp; exact hp
        | bad => rw [e] at hp; exact hp
      obtain ⟨ιa, ρa, Ga, hra, era, ha⟩ := stepF (f := fun ρ G => (fc ρ G).bind asB) (Rel := RelB) hr' er' hp
      refine ⟨ιa, ρa, Ga, hra, era, ha.imp fun _ _ _ H1 v ⟨b, ι1, G1, f1, hr1, er1, q1, h1⟩ => ?_⟩
      have q1 : v = b := q1
      subst q1
      cases v with
      | false => exact h1 ι1 H1 σ' .refl hr1 er1
      | true =>
        show if true = true then _ else _
        rw [if_pos rfl] at h1 ⊢
        refine ⟨_, fun σ2 H2 z => ⟨m, Nat.lt_succ_self _, z⟩, ι1, ρ', G1, hr1, er1, ?_⟩
        cases e : f ρ' G1 with
        | nx ρ1 G2 => rw [e] at h1; exact fun ι2 H2 σ2 f2 hr2 er2 => ⟨ι2, ρ1, G2, hr2, er2, PostF.shift hr2 f2 h1⟩
        | ct ρ1 G2 => rw [e] at h1; exact fun ι2 H2 σ2 f2 hr2 er2 => ⟨ι2, ρ1, G2, hr2, er2, PostF.shift hr2 f2 h1⟩
        | bk ρ1 G2 => rw [e] at h1; exact h1
        | rt d G2 => rw [e] at h1; exact h1
        | ex c d ρ1 G2 => rw [e] at h1; exact h1
        | bad => rw [e] at h1; exact h1
theorem s_for {tgE iter : Expr} {tg : Tg} {fI : Env → Hpp → Res Walk} (hp : PassesOwn (model X.prog X.w) X.A X.env X.xe) (hc : X.calm = true) (hi : PI X tgE iter (tI X XC W fI)) (hg : PG X tgE (gOf X.K tg)) (hb : PSs X body (tS X XC W f))
    (hs : ∀ x, foldedSetIterable iter X.env x = pure x) : PS X (.For tgE iter body [] pos) (tS X XC W fun ρ G => resF (fI ρ G) ρ fun w G1 => loopF (fun d ρ1 G2 => match bindTg tg d ρ1 with
    | some ρ2 => f ρ2 G2
    | none => .bad) w (w.size G1 + 1) 0 ρ G1) :=
  PS.imp (ps_for hp hc hi hg hb hs) fun D σ H ⟨ι, ρ, G, hr, er, h⟩ => by
    obtain ⟨ι', ρ', G', hr', er', h'⟩ := stepF (Rel := RelW X) hr er h
    refine ⟨ι', ρ', G', hr', er', h'.imp fun _ _ _ H1 J ⟨wk, ι1, G1, f1, hr1, er1, hwr, hp⟩ => ?_⟩
    have hwr : WR X.prog X.w X.K ι1 H1 J wk := hwr
    refine ⟨fun i m σ' H' => ∃ ι' ρ' G', Fr2 ι1 H1 ι' H' ∧ HR X.prog X.w X.K ι' G' H' ∧ ER X.K ι' H' σ' ρ' ∧ PostF X XC W ι' H' D (loopF (fun d ρ1 G2 => match bindTg tg d ρ1 with
      | some ρ2 => f ρ2 G2
      | none => .bad) wk m i ρ' G'), ⟨_, ι1, ρ, G1, .refl, hr1, er1, hp⟩, ?_⟩
    rintro i m σ' H' ⟨ι', ρ', G', f1', hr', er', hp⟩
    cases m with
    | zero => exact hp.elim
    | succ n =>
      have hJ := hwr ι' G' H' f1' hr' i
      simp only [loopF] at hp
      cases ei : wk.item i G' with
      | stop => rw [ei] at hp hJ; exact .inl ⟨hJ, hp ι' H' σ' .refl hr' er'⟩
      | bad => rw [ei] at hp; exact hp.elim
      | yld d =>
        rw [ei] at hp hJ
        obtain ⟨hgo, hy⟩ := hJ
        refine .inr ⟨hgo, _, fun σ2 H2 z => ⟨n, Nat.lt_succ_self _, z⟩, fun x H2 y => ?_⟩
        obtain ⟨f2, hr2, rx⟩ := hy x H2 y
        have f2' : Fr2 ι1 H1 ι' H2 := f1'.trans hr' f2
        have hp := PostF.shift hr2 f2 hp
        dsimp only at hp
        cases eb : bindTg tg d ρ' with
        | none => simp only [eb] at hp; exact hp.elim
        | some ρ2 =>
          simp only [eb] at hp
          refine bind_ok (bad := fun _ => False) eb rx (ER.x (er'.go hr' f2)) fun σ2 _ er2 => ⟨ι', ρ2, G', hr2, er2.er fun j hj => hj.1, ?_⟩
          have go : ∀ {ρ1 G3 ι3 H3 σ3}, Fr2 ι' H2 ι3 H3 → HR X.prog X.w X.K ι3 G3 H3 → ER X.K ι3 H3 σ3 ρ1 → PostF X XC W ι' H2 D (loopF (fun d ρ1 G2 => match bindTg tg d ρ1 with
            | some ρ2 => f ρ2 G2
            | none => .bad) wk n (i + 1) ρ1 G3) → ∃ ι' ρ' G', Fr2 ι1 H1 ι' H3 ∧ HR X.prog X.w X.K ι' G' H3 ∧ ER X.K ι' H3 σ3 ρ' ∧ PostF X XC W ι' H3 D (loopF (fun d ρ1 G2 => match bindTg tg d ρ1 with
            | some ρ2 => f ρ2 G2
            | none => .bad) wk n (i + 1) ρ' G') := fun {ρ1 G3 ι3 H3 σ3} f3 hr3 er3 h3 => ⟨ι3, ρ1, G3, f2'.trans hr2 f3, hr3, er3, PostF.shift hr3 f3 h3⟩
          cases e : f ρ2 G' with
          | nx ρ1 G3 => rw [e] at hp; exact fun ι3 H3 σ3 f3 hr3 er3 => go f3 hr3 er3 hp
          | ct ρ1 G3 => rw [e] at hp; exact fun ι3 H3 σ3 f3 hr3 er3 => go f3 hr3 er3 hp
          | bk ρ1 G3 => rw [e] at hp; exact hp
          | rt d G3 => rw [e] at hp; exact hp
          | ex c d ρ1 G3 => rw [e] at hp; exact hp
          | bad => rw [e] at hp; exact hp
end
end LK

set_option Elab.async false
set_option linter.all false
set_option autoImplicit false
set_option maxRecDepth 100000
set_option maxHeartbeats 4000000
/-! LkChk: a checker that the text is what the language says; its soundness. -/
namespace LK
open PySem PySem.Spec PyProof.Rows L2

/-- the shape of a call -/
structure Sh where
  f : Str
  n : Nat
  ks : List Str
  dd : List D
  deriving DecidableEq
structure CC where
  N : List Str
  sc : Scope
  fn : Str → Bool
  shp : List Sh
  gl : List Str
  bl : List Str
def notStar : Expr → Bool
  | .Starred .. => false
  | _ => true
def notSet : Expr → Bool
  | .Set .. => false
  | _ => true
def notSlice : Expr → Bool
  | .Slice .. => false
  | _ => true
def notComp : Expr → Bool
  | .ListComp .. => false
  | .SetComp .. => false
  | .DictComp .. => false
  | _ => true
def notTup : Expr → Bool
  | .Tuple .. => false
  | _ => true
def notCall : Expr → Bool
  | .Call .. => false
  | _ => true
/-- its test is its value's -/
def plainT : Expr → Bool
  | .UnaryOp .. => false
  | .BoolOp .. => false
  | .IfExp .. => false
  | .Compare .. => false
  | _ => true
def isNon : E → Bool
  | .non => true
  | _ => false
def Sb.nm : Sb → Str
  | .tuple => "tuple" | .list => "list" | .sorted => "sorted" | .sortedR => "sortedR" | .sum => "sum" | .all => "all" | .any => "any" | .min => "min" | .max => "max" | .set => "set" | .dict => "dict"
def Ty.sn : Ty → Str
  | .int => "int" | .bool => "bool" | .str => "str" | .tuple => "tuple" | .list => "list"
def CC.blk (c : CC) (scope : Scope) : CC := { c with sc := relS scope c.sc, fn := fun x => scope.names.lookup x == some .cell }
def CC.glb (c : CC) (x : Str) : Bool := decide (c.sc.names.lookup x = some .globalImplicit)
def CC.blt (c : CC) (x : Str) : Bool := c.glb x && decide (x ∈ c.bl)
def CC.vis (c : CC) (i : Nat) (x : Str) : Bool := decide (c.N[i]? = some x) && (decide (c.sc.names.lookup x = some .local) || decide (c.sc.names.lookup x = some .cell) || decide (c.sc.names.lookup x = some .free)) && !(x == ("__debug__" : Str)) && !(x == ("__classdict__" : Str))
def CC.loc (c : CC) (i : Nat) (x : Str) : Bool := decide (c.N[i]? = some x) && (decide (c.sc.names.lookup x = some .local) || (decide (c.sc.names.lookup x = some .cell) && c.fn x))
def chkTgs (c : CC) : List Nat → List Expr → Bool
  | [], [] => true
  | j :: js, .Name x _ :: es => c.loc j x && chkTgs c js es
  | _, _ => false
def chkTg (c : CC) : Tg → Expr → Bool
  | .one i, .Name x _ => c.loc i x
  | .many js, .Tuple es _ _ => chkTgs c js es
  | _, _ => false
def CC.own (c : CC) (tg : Tg) : List (Str × Nat) := tg.sl.map fun j => ((c.N[j]?).getD "", j)
mutual
def chkE : E → CC → Expr → Bool
  | .int i, _, x => match x with
    | .Constant (.int j) _ _ => i == j
    | _ => false
  | .bl b, _, x => match x with
    | .Constant (.bool j) _ _ => b == j
    | _ => false
  | .non, _, x => match x with
    | .Constant .none _ _ => true
    | _ => false
  | .str s, _, x => match x with
    | .Constant (.str j) _ _ => decide (s = j)
    | _ => false
  | .var i, c, x => match x with
    | .Name y _ => c.vis i y
    | _ => false
  | .glob z, c, x => match x with
    | .Name y _ => decide (z = y) && c.glb y && decide (y ∈ c.gl) && !(y == ("__debug__" : Str))
    | _ => false
  | .tup es, c, x => match x with
    | .Tuple xs _ _ => decide (xs.length ≤ 1000) && chkEs es c xs
    | _ => false
  | .lst es, c, x => match x with
    | .List xs _ => decide (xs.length ≤ 1000) && chkEs es c xs
    | _ => false
  | .dnew _, _, x => match x with
    | .Dict [] [] _ => true
    | _ => false
  | .bin op a b, c, x => match x with
    | .BinOp l o r _ => decide (o = op.op) && chkE a c l && chkE b c r
    | _ => false
  | .neg a, c, x => match x with
    | .UnaryOp .USub l _ => chkE a c l
    | _ => false
  | .cmp op a b, c, x => match x with
    | .Compare l [o] [r] _ => decide (o = op.op) && !behindInMarks o r && chkE a c l && chkE b c r
    | _ => false
  | .chain o p a b d, c, x => match x with
    | .Compare l [o', p'] [r, q] _ => decide (o' = o.op) && decide (p' = p.op) && !lastMarks [o', p'] [r, q] && chkE a c l && chkE b c r && chkE d c q
    | _ => false
  | .and a b, c, x => match x with
    | .BoolOp .And (l :: r :: rest) pos => chkE a c l && (match rest with
      | [] => chkE b c r
      | _ => chkE b c (.BoolOp .And (r :: rest) pos))
    | _ => false
  | .or a b, c, x => match x with
    | .BoolOp .Or (l :: r :: rest) pos => chkE a c l && (match rest with
      | [] => chkE b c r
      | _ => chkE b c (.BoolOp .Or (r :: rest) pos))
    | _ => false
  | .not a, c, x => match x with
    | .UnaryOp .Not l _ => chkE a c l
    | _ => false
  | .ite t a b, c, x => match x with
    | .IfExp u l r _ => chkE t c u && chkE a c l && chkE b c r
    | _ => false
  | .idx a i, c, x => match x with
    | .Subscript l r _ => notSlice r && chkE a c l && chkE i c r
    | _ => false
  | .slc a lo hi, c, x => match x with
    | .Subscript l (.Slice p q none _) _ => chkE a c l && (match p with
      | none => isNon lo
      | some p => !isNon lo && chkE lo c p) && (match q with
      | none => isNon hi
      | some q => !isNon hi && chkE hi c q)
    | _ => false
  | .call f es ks dd, c, x => match x with
    | .Call (.Name g _) args kws _ => decide (f = g) && c.glb f && !(f == ("__debug__" : Str)) && decide (Sh.mk f args.length (kws.map fun k => k.arg.getD "") dd ∈ c.shp) && (kws.all fun k => k.arg.isSome) && chkEs es c args && chkKs ks c kws
    | _ => false
  | .len a, c, x => match x with
    | .Call (.Name g _) [l] [] _ => decide (g = ("len" : Str)) && c.blt "len" && notStar l && chkE a c l
    | _ => false
  | .abs a, c, x => match x with
    | .Call (.Name g _) [l] [] _ => decide (g = ("abs" : Str)) && c.blt "abs" && notStar l && chkE a c l
    | _ => false
  | .int1 a, c, x => match x with
    | .Call (.Name g _) [l] [] _ => decide (g = ("int" : Str)) && c.blt "int" && notStar l && chkE a c l
    | _ => false
  | .min2 a b, c, x => match x with
    | .Call (.Name g _) [l, r] [] _ => decide (g = ("min" : Str)) && c.blt "min" && notStar l && notStar r && chkE a c l && chkE b c r
    | _ => false
  | .max2 a b, c, x => match x with
    | .Call (.Name g _) [l, r] [] _ => decide (g = ("max" : Str)) && c.blt "max" && notStar l && notStar r && chkE a c l && chkE b c r
    | _ => false
  | .isi a t, c, x => match x with
    | .Call (.Name g _) [l, .Name tn _] [] _ => decide (g = ("isinstance" : Str)) && c.blt "isinstance" && notStar l && decide (tn = t.sn) && c.blt t.sn && chkE a c l
    | _ => false
  | .seq b a, c, x => match x with
    | .Call (.Name g _) [l] [] _ => decide (g = b.nm) && decide (b ≠ .sortedR) && c.blt b.nm && notStar l && chkE a c l
    | _ => false
  | .lrng _ _, _, _ => false
  | .comp e tg i ifs, c, x => match x with
    | .ListComp elt [⟨tgE, iter, ifsE, 0⟩] scope _ => chkI i c tgE iter && notSet iter && blkC c.N c.sc scope (c.own tg) && chkTg (c.blk scope) tg tgE && chkIf ifs (c.blk scope) ifsE && chkE e (c.blk scope) elt
    | _ => false
  | .dcomp _ k e tg i ifs, c, x => match x with
    | .DictComp kx elt [⟨tgE, iter, ifsE, 0⟩] scope _ => chkI i c tgE iter && notSet iter && blkC c.N c.sc scope (c.own tg) && chkTg (c.blk scope) tg tgE && chkIf ifs (c.blk scope) ifsE && chkE k (c.blk scope) kx && chkE e (c.blk scope) elt
    | _ => false
  | .meth0 m o, c, x => match x with
    | .Call (.Attribute l at_ apos) [] [] cpos => decide (at_ = m.nm) && notCall l && (apos.endLine == cpos.line) && chkE o c l
    | _ => false
  | .meth1 m o a, c, x => match x with
    | .Call (.Attribute l at_ apos) [r] [] cpos => decide (at_ = m.nm) && notCall l && (apos.endLine == cpos.line) && notStar r && chkE o c l && chkE a c r
    | _ => false
def chkEs : Es → CC → List Expr → Bool
  | .nil, _, xs => match xs with
    | [] => true
    | _ => false
  | .cons e r, c, xs => match xs with
    | x :: xs => notStar x && chkE e c x && chkEs r c xs
    | _ => false
def chkKs : Es → CC → List Keyword → Bool
  | .nil, _, xs => match xs with
    | [] => true
    | _ => false
  | .cons e r, c, xs => match xs with
    | ⟨_, x, _⟩ :: xs => chkE e c x && chkKs r c xs
    | _ => false
/-- a comprehension's tests: none or one -/
def chkIf : Es → CC → List Expr → Bool
  | .nil, _, xs => match xs with
    | [] => true
    | _ => false
  | .cons e r, c, xs => match xs, r with
    | [x], .nil => chkE e c x
    | _, _ => false
def chkI : I → CC → Expr → Expr → Bool
  | .ex e, c, _, x => chkE e c x
  | .rng1 a, c, _, x => match x with
    | .Call (.Name g _) [l] [] _ => decide (g = ("range" : Str)) && c.blt "range" && notStar l && chkE a c l
    | _ => false
  | .rng2 a b, c, _, x => match x with
    | .Call (.Name g _) [l, r] [] _ => decide (g = ("range" : Str)) && c.blt "range" && notStar l && notStar r && chkE a c l && chkE b c r
    | _ => false
  | .enum a, c, tg, x => match tg, x with
    | .Tuple .., .Call (.Name g _) [l] [] _ => decide (g = ("enumerate" : Str)) && c.blt "enumerate" && notStar l && chkE a c l
    | _, _ => false
  | .zip a b, c, tg, x => match tg, x with
    | .Tuple .., .Call (.Name g _) [l, r] [] _ => decide (g = ("zip" : Str)) && c.blt "zip" && notStar l && notStar r && chkE a c l && chkE b c r
    | _, _ => false
  | .items _, _, _, _ => false
end
/-- the names that are stored from the right; none: not told -/
def swp (sc : Scope) (ts vs : List Expr) : Option (Option (List Str)) :=
  if !(ts.length == 2 || ts.length == 3) || vs.length != ts.length then some none
  else if vs.any fun | .Starred .. => true | _ => false then some none
  else
    let line := (ts.head?.map (·.pos.line)).getD 0
    let names := ts.filterMap fun
      | .Name id pos => if sc.names.lookup id == some .local && pos.line == line then some id else none
      | _ => none
    if names.length != ts.length || names.eraseDups.length != names.length then some none
    else if vs.all (foldedForSure 8) then some none
    else if vs.all (constantsAlone 8) then none
    else some (some names)
def CC.lcl (c : CC) (x : Str) : Bool := decide (c.sc.names.lookup x = some .local)
def chkPar (c : CC) (js : List Nat) (ts vs : List Expr) (names : List Str) : Bool :=
  match js, ts, vs with
  | [i, j], [.Name x _, .Name y _], [_, _] => decide (i ≠ j) && decide (names = [x, y]) && c.lcl x && c.lcl y && decide (c.N[i]? = some x) && decide (c.N[j]? = some y)
  | [i, j, l], [.Name x _, .Name y _, .Name z _], [_, _, _] => decide (i ≠ j) && decide (i ≠ l) && decide (j ≠ l) && decide (names = [x, y, z]) && c.lcl x && c.lcl y && c.lcl z && decide (c.N[i]? = some x) && decide (c.N[j]? = some y) && decide (c.N[l]? = some z)
  | _, _, _ => false
mutual
def chkS : S → CC → Stmt → Bool
  | .set i e, c, x => match x with
    | .Assign [.Name y py] v pos => c.loc i y && chkE e c v && ((notComp v || !c.lcl y) || (match v with
      | .ListComp _ [_] scope p => (match e with
        | .comp .. => decide (c.sc.names.lookup y = some .local) && (py.line == p.line) && !(scope.names.any fun (n, k) => n == y && (k == .local || k == .cell))
        | _ => false)
      | _ => false))
    | _ => false
  | .setT js e, c, x => match x with
    | .Assign [.Tuple ts _ _] v _ => chkTgs c js ts && chkE e c v && (match v with
      | .Tuple vs _ _ => (match swp c.sc ts vs with
        | some none => true
        | some (some names) => chkPar c js ts vs names && (match e with
            | .tup _ => true
            | _ => false)
        | none => false)
      | v => notComp v)
    | _ => false
  | .setI o i e, c, x => match x with
    | .Assign [.Subscript l r _] v _ => notSlice r && notComp v && chkE e c v && chkE o c l && chkE i c r
    | _ => false
  | .aug i op e, c, x => match x with
    | .AugAssign (.Name y _) o v _ => decide (o = op.op) && (decide (op = .add) || decide (op = .sub) || decide (op = .mul)) && c.loc i y && chkE e c v
    | _ => false
  | .augI _ _ _ _, _, _ => false
  | .expr e, c, x => match x with
    | .Expr v _ => notComp v && chkE e c v
    | _ => false
  | .ret e, c, x => match x with
    | .Return (some v) _ => chkE e c v
    | _ => false
  | .retN, _, x => match x with
    | .Return none _ => true
    | _ => false
  | .ite t a b, c, x => match x with
    | .If u p q _ => chkE t c u && chkSs a c p && chkSs b c q
    | _ => false
  | .whl t b, c, x => match x with
    | .While u p [] _ => chkE t c u && chkSs b c p
    | _ => false
  | .for_ tg i b, c, x => match x with
    | .For tgE iter p [] _ => chkTg c tg tgE && chkI i c tgE iter && notSet iter && chkSs b c p
    | _ => false
  | .brk, _, x => match x with
    | .Break _ => true
    | _ => false
  | .cnt, _, x => match x with
    | .Continue _ => true
    | _ => false
  | .pass, _, x => match x with
    | .Pass _ => true
    | _ => false
  | .raise _ _, _, _ => false
  | .try_ _ _ _ _, _, _ => false
def chkSs : Ss → CC → List Stmt → Bool
  | .nil, _, xs => match xs with
    | [] => true
    | _ => false
  | .cons s r, c, xs => match xs with
    | x :: xs => chkS s c x && chkSs r c xs
    | _ => false
end

/-! ### soundness -/
def FnsOk (P : Program) (w : World) (K : PySem.W.Frag) (mg : Str → Option Value) (base : Heap) (XC : XCT) (CF : CallF) (k : Nat) (shp : List Sh) : Prop := ∀ sh ∈ shp, ∃ (fp : Addr) (fd : FuncData) (ps : List Str),
  FnOk P w K mg base CX0 k fp fd ps (spL P w K XC CF sh.f ps.length) ∧ mg sh.f = some (.ref fp) ∧ PySem.W.keepIn K (.ref fp) = true ∧ ShOk K fd ps sh.n sh.ks sh.dd
def GlOk (K : PySem.W.Frag) (mg : Str → Option Value) (Γ : Str → Option D) (gl : List Str) : Prop := ∀ x ∈ gl, ∃ (d : D) (u : Value) (v : V), Γ x = some d ∧ mg x = some u ∧ L2.RelV v u ∧ ∀ ι H, RV K ι H v d
structure XOk (X : Cx) (XC : XCT) (CF : CallF) (Γ : Str → Option D) (c : CC) : Prop where
  sc : X.env.scope = c.sc
  kind : c.sc.kind = .function
  N : X.N = c.N
  nd : c.N.Nodup
  calm : X.calm = true
  fn : ∀ x, c.fn x = true → X.fn x = true
  fns : ∃ k, Room k X.A ∧ FnsOk X.prog X.w X.K X.mg X.base XC CF k c.shp
  gl : GlOk X.K X.mg Γ c.gl
  bl : ∀ b ∈ c.bl, X.mg b = none
section
variable {X : Cx} {XC : XCT} {W : WT} {CF : CallF} {Γ : Str → Option D} {c : CC}
theorem XOk.hu (h : XOk X XC CF Γ c) : X.A.units + 150 < cLine := by
  obtain ⟨k, r, _⟩ := h.fns
  have := r.un
  omega
theorem XOk.blk (h : XOk X XC CF Γ c) {scope : Scope} (hk : scope.kind = .function) (s : Shared) (H : Hp) (C : Addr) (cl : List (Str × Addr)) (fp : List Addr) : XOk (X.blk s H scope (compEnvC scope cl C X.env) fp) XC CF Γ (c.blk scope) where
  sc := by show relS scope X.env.scope = _; rw [h.sc]; rfl
  kind := hk
  N := h.N
  nd := h.nd
  calm := h.calm
  fn := fun x e => e
  fns := h.fns
  gl := h.gl
  bl := h.bl
theorem XOk.glb (h : XOk X XC CF Γ c) {x : Str} (e : c.glb x = true) : Gl X x := by
  have e := of_decide_eq_true e
  show X.env.scope.names.lookup x = _
  rw [h.sc]; exact e
theorem XOk.blt (h : XOk X XC CF Γ c) {x : Str} {v : Value} (e : c.blt x = true) (hb : bootBuiltins x = some v) (hn : x ≠ "__name__") (hd : (x == ("__debug__" : Str)) = false) : Blt X x v := by
  unfold CC.blt at e
  rw [Bool.and_eq_true] at e
  exact ⟨h.glb e.1, h.bl _ (of_decide_eq_true e.2), hb, hn, hd⟩
theorem XOk.loc (h : XOk X XC CF Γ c) {i : Nat} {x : Str} (e : c.loc i x = true) : X.N[i]? = some x ∧ Loc X.env.scope x ∧ (X.fn x = true ∨ X.env.scope.names.lookup x = some .local) := by
  unfold CC.loc at e
  simp only [Bool.and_eq_true, Bool.or_eq_true, decide_eq_true_eq] at e
  rw [h.N, h.sc]
  refine ⟨e.1, ?_, ?_⟩
  · rcases e.2 with q | q
    · exact .inl q
    · exact .inr q.1
  · rcases e.2 with q | q
    · exact .inr q
    · exact .inl (h.fn _ q.2)
theorem star_of {e : Expr} {r : List Expr} {env : PySem.Env} (h : notStar e = true) : starEach (e :: r) env = (false, eval e env) :: starEach r env := by
  cases e <;> first | rfl | cases h
theorem star1 {e : Expr} {env : PySem.Env} (h : notStar e = true) : starEach [e] env = [(false, eval e env)] := star_of h
theorem star2 {e f : Expr} {env : PySem.Env} (h : notStar e = true) (h2 : notStar f = true) : starEach [e, f] env = [(false, eval e env), (false, eval f env)] := by rw [star_of h, star1 h2]
theorem star_plain {env : PySem.Env} (pos : Pos) : ∀ {es : List Expr}, (∀ e ∈ es, notStar e = true) → (backTo pos (starEach es env)).any (·.1) = false
  | [], _ => rfl
  | e :: es, h => by
    rw [star_of (h e (List.mem_cons_self ..))]
    have := star_plain (env := env) pos (es := es) fun x hx => h x (List.mem_cons_of_mem _ hx)
    unfold backTo at this ⊢
    rw [List.map_cons, List.any_cons, this]
    rfl
theorem set_of {e : Expr} {env : PySem.Env} (h : notSet e = true) (x : Value) : foldedSetIterable e env x = pure x := by
  cases e <;> first | rfl | cases h
theorem ix_of {e : Expr} (h : notSlice e = true) : PlainIx e := fun o i => by
  cases e <;> first | rfl | cases h
theorem sw_of {e : Expr} {t : Option Expr} {l : Nat} {env : PySem.Env} (h : notComp e = true) : swapsWith e t l env = pure false := by
  cases e <;> first | rfl | cases h
theorem base_of {e : Expr} {a : Str} {env : PySem.Env} {wh : Sem Value} (h : notCall e = true) : attributeBase e a env wh = wh := by
  cases e <;> first | rfl | cases h
theorem plain_of {e : Expr} {env : PySem.Env} (h : plainT e = true) (wh : Sem Value) : isTrue e env wh = (do let v ← wh; standAt e.pos; holding [v] (truthy v)) := by
  cases e <;> first | rfl | cases h
theorem tg_names {env : PySem.Env} : ∀ {js : List Nat} {es : List Expr}, chkTgs c js es = true → (assignEach es env).length = js.length ∧ (assignEach es env).findIdx? (·.1) = none
  | [], [], _ => ⟨rfl, rfl⟩
  | j :: js, .Name x p :: es, h => by
    simp only [chkTgs, Bool.and_eq_true] at h
    obtain ⟨h1, h2⟩ := tg_names (env := env) h.2
    have e : assignEach (.Name x p :: es) env = (false, assign (.Name x p) env) :: assignEach es env := rfl
    rw [e]
    refine ⟨by simp [h1], ?_⟩
    rw [List.findIdx?_cons, h2]
    rfl
  | [], _ :: _, h => by simp [chkTgs] at h
  | _ :: _, [], h => by simp [chkTgs] at h
theorem pgs_of (xo : XOk X XC CF Γ c) : ∀ {js : List Nat} {es : List Expr}, chkTgs c js es = true → PGs X es (gSeq js)
  | [], [], _ => pgs_nil
  | j :: js, .Name x p :: es, h => by
    simp only [chkTgs, Bool.and_eq_true] at h
    obtain ⟨h1, h2, h3⟩ := xo.loc h.1
    exact pgs_cons (pg_name (xo.N ▸ xo.nd) h1 h2 h3) (pgs_of xo h.2)
  | [], _ :: _, h => by simp [chkTgs] at h
  | _ :: _, [], h => by simp [chkTgs] at h
theorem pg_of (xo : XOk X XC CF Γ c) {tg : Tg} {tgE : Expr} (h : chkTg c tg tgE = true) : PG X tgE (gOf X.K tg) := by
  unfold chkTg at h
  split at h
  · obtain ⟨h1, h2, h3⟩ := xo.loc h
    exact pg_name (xo.N ▸ xo.nd) h1 h2 h3
  · obtain ⟨h1, h2⟩ := tg_names (env := X.env) h
    exact pg_tup xo.calm (pgs_of xo h) h1 h2
  · cases h
theorem nd_of (xo : XOk X XC CF Γ c) : X.N.Nodup := xo.N ▸ xo.nd
/-- a chain, as a test -/
theorem t_chain {a b d : Expr} {fa fb fc : LK.Env → Hpp → Res R} {pos : Pos} {o p : Cop} (hu : X.A.units + 150 < cLine) (hm : lastMarks [o.op, p.op] [b, d] = false) (ha : PE X a (tR X XC W fa)) (hb : PE X b (tR X XC W fb)) (hc : PE X d (tR X XC W fc)) : PT X (.Compare a [o.op, p.op] [b, d] pos)
    (tT X XC W fun ρ G => (fa ρ G).bind fun x G1 => (fb ρ G1).bind fun y G2 => match cmpR o x y G2 with
    | some true => (fc ρ G2).bind fun z G3 => optB (cmpR p y z G3) G3
    | some false => okV (.bl false) G2
    | none => .bad) := by
  refine ⟨fun pins s σ H Q I ⟨ι, ρ, G, hr, er, h⟩ => ?_⟩
  have h' : Post X.prog X.w X.K RelB XC W ι H (fun _ _ _ H' v => Q v H') ((fa ρ G).bind fun x G1 => (fb ρ G1).bind fun y G2 => match cmpR o x y G2 with
    | some true => (fc ρ G2).bind fun z G3 => (optB (cmpR p y z G3) G3).bind asB
    | some false => .ok false G2
    | none => .bad) := by
    dsimp only at h
    cases e1 : fa ρ G with
    | ok x G1 =>
      simp only [e1, okB] at h ⊢
      cases e2 : fb ρ G1 with
      | ok y G2 =>
        simp only [e2, okB] at h ⊢
        split at h
        · cases e3 : fc ρ G2 <;> simp only [e3, okB, exB, bdB] at h ⊢ <;> exact h
        · exact h
        · exact h
      | ex _ _ _ => simp only [e2, exB] at h ⊢; exact h
      | bad => simp only [e2, bdB] at h ⊢; exact h
    | ex _ _ _ => simp only [e1, exB] at h ⊢; exact h
    | bad => simp only [e1, bdB] at h ⊢; exact h
  refine isTrue_chain (thn (ha.run pins s σ H _ I (step hr er h')) fun v s1 ⟨x, H1, I1, r1, rx, ι1, G1, f1, hr1, er1, q1, h1⟩ => test_link (
    thn (hb.run pins s1 σ H1 _ I1 (step2 f1 hr1 er1 (fun _ _ _ _ q => q) h1)) fun u s2 ⟨y, H2, I2, r2, ry, ι2, G2, f2, hr2, er2, q2, h2⟩ => ?_)) hm
  try dsimp only at h2
  split at h2
  · rename_i e
    refine thn (cmp_ok (Q := fun v H' => v = .bl true ∧ H' = H2) hu I2 hr2 r1 r2 (q1.go hr1 f2) q2 e ⟨rfl, rfl⟩) fun d s3 ⟨z, H3, I3, r3, e1, e2⟩ => ?_
    subst e1 e2
    cases r3
    refine wpAny_truthy_bool (ite_tt (test_last (thn (hc.run pins s3 σ H3 _ I3 (step2 f2 hr2 er2 (fun _ _ _ _ q => q) h2)) fun w' s4 ⟨z', H4, I4, r4, rz, ι4, G4, f4, hr4, er4, q4, h4⟩ => ?_)))
    try dsimp only at h4
    cases e : cmpR p ry rz G4 with
    | none => rw [e] at h4; exact h4.elim
    | some k =>
      rw [e] at h4
      refine thn (cmp_ok (Q := fun v H' => v = .bl k ∧ H' = H4) hu I4 hr4 r2 r4 (q2.go hr2 f4) q4 e ⟨rfl, rfl⟩) fun d s5 ⟨z2, H5, I5, r5, e1, e2⟩ => ?_
      subst e1 e2
      cases r5
      exact wpAny_truthy_bool ⟨H5, I5, h4 ι4 H5 k f4 hr4 rfl⟩
  · rename_i e
    refine thn (cmp_ok (Q := fun v H' => v = .bl false ∧ H' = H2) hu I2 hr2 r1 r2 (q1.go hr1 f2) q2 e ⟨rfl, rfl⟩) fun d s3 ⟨z, H3, I3, r3, e1, e2⟩ => ?_
    subst e1 e2
    cases r3
    exact wpAny_truthy_bool (ite_ff ⟨H3, I3, h2 ι2 H3 false f2 hr2 rfl⟩)
  · exact h2.elim
theorem t_ite {t a b : Expr} {f fa fb : LK.Env → Hpp → Res R} {pos : Pos} (ht : PT X t (tT X XC W f)) (ha : PT X a (tT X XC W fa)) (hb : PT X b (tT X XC W fb)) : PT X (.IfExp t a b pos) (tT X XC W fun ρ G => (f ρ G).bind fun x G1 => match x with
    | .val (.bl true) => fa ρ G1
    | .val (.bl false) => fb ρ G1
    | _ => .bad) := by
  refine ⟨fun pins s σ H Q I ⟨ι, ρ, G, hr, er, h⟩ => ?_⟩
  have h : Post X.prog X.w X.K RelB XC W ι H (fun _ _ _ H' v => Q v H') (((f ρ G).bind asB).bind fun c G1 => if c = true then (fa ρ G1).bind asB else (fb ρ G1).bind asB) := by
    dsimp only at h
    cases e1 : f ρ G with
    | ok x G1 =>
      rw [e1, okB] at h
      rw [okB]
      cases x with
      | val d =>
        cases d with
        | bl b => cases b <;> exact h
        | _ => exact h
      | _ => exact h
    | ex _ _ _ => rw [e1] at h; exact h
    | bad => rw [e1] at h; exact h
  refine isTrue_IfExp (thn (ht.run pins s σ H _ I (stepT hr er h)) fun c s1 ⟨H1, I1, b', ι1, G1, f1, hr1, er1, e1, h1⟩ => ?_)
  have e1 : c = b' := e1
  subst e1
  dsimp only at h1
  cases c with
  | true => exact ite_tt (ha.run pins s1 σ H1 _ I1 ⟨ι1, ρ, G1, hr1, er1, h1.shift hr1 f1 (fun _ _ _ _ q => q)⟩)
  | false => exact ite_ff (hb.run pins s1 σ H1 _ I1 ⟨ι1, ρ, G1, hr1, er1, h1.shift hr1 f1 (fun _ _ _ _ q => q)⟩)
theorem pts_of {e : Expr} {f : LK.Env → Hpp → Res R} (h : PT X e (tT X XC W f)) : PTs X [e] (tX X XC W RelB fun ρ G => (f ρ G).bind fun x G1 => match x with
    | .val (.bl true) => .ok true G1
    | .val (.bl false) => .ok false G1
    | _ => .bad) := by
  have q : PTs X [e] (tT X XC W f) := pts_one h
  refine ⟨fun pins s σ H Q I ⟨ι, ρ, G, hr, er, h⟩ => q.run pins s σ H Q I ⟨ι, ρ, G, hr, er, ?_⟩⟩
  dsimp only at h
  show Post X.prog X.w X.K RelB XC W ι H (fun _ _ _ H' v => Q v H') ((f ρ G).bind asB)
  cases e1 : f ρ G with
  | ok x G1 =>
    rw [e1, okB] at h
    rw [okB]
    cases x with
    | val d =>
      cases d with
      | bl b => cases b <;> exact h
      | _ => exact h
    | _ => exact h
  | ex _ _ _ => rw [e1] at h; exact h
  | bad => rw [e1] at h; exact h
theorem pts_nil' : PTs X [] (tX X XC W RelB fun _ G => .ok true G) :=
  ⟨fun pins s σ H Q I ⟨ι, ρ, G, hr, er, h⟩ => pts_nil.run pins s σ H Q I (h ι H true .refl hr rfl)⟩
end
end LK

set_option Elab.async false
set_option linter.all false
set_option autoImplicit false
set_option maxRecDepth 100000
set_option maxHeartbeats 4000000
/-! LkSnd: what the checker passes does what the language says: expressions. -/
namespace LK
open PySem PySem.Spec PyProof.Rows L2

section
variable {XC : XCT} {CF : CallF} {Γ : Str → Option D}
def OkX (X : Cx) (XC : XCT) (W : WT) (x : Expr) (f : Env → Hpp → Res R) : Prop := PE X x (tR X XC W f) ∧ PT X x (tT X XC W f) ∧ ∀ op vs pos, x = .BoolOp op vs pos → PW X x (tT X XC W f)
theorem OkX.plain {X : Cx} {W : WT} {x : Expr} {f : Env → Hpp → Res R} (hp : plainT x = true) (h : PE X x (tR X XC W f)) : OkX X XC W x f := ⟨h, t_val h (plain_of hp), fun op vs pos e => by subst e; cases hp⟩
def OkL (X : Cx) (XC : XCT) (W : WT) (CF : CallF) (Γ : Str → Option D) (xs : List Expr) (es : Es) : Prop := PA X xs (tA X XC W (evs CF Γ es)) ∧ (∀ ρ G ds G', evs CF Γ es ρ G = .ok ds G' → ds.length = xs.length) ∧ (∀ x ∈ xs, notStar x = true) ∧ (xs = [] → es = .nil)
def OkK (X : Cx) (XC : XCT) (W : WT) (CF : CallF) (Γ : Str → Option D) (xs : List Keyword) (es : Es) : Prop := PK X xs (tA X XC W (evs CF Γ es)) ∧ (∀ ρ G ds G', evs CF Γ es ρ G = .ok ds G' → ds.length = xs.length)
theorem evs_len {e : E} {r : Es} {n : Nat} (h : ∀ ρ G ds G', evs CF Γ r ρ G = .ok ds G' → ds.length = n) : ∀ ρ G ds G', evs CF Γ (.cons e r) ρ G = .ok ds G' → ds.length = n + 1 := fun ρ G ds G' q => by
  rw [evs] at q
  cases e1 : (ev CF Γ e ρ G).bind toD with
  | ok d G1 =>
    rw [e1, okB] at q
    cases e2 : evs CF Γ r ρ G1 with
    | ok ds' G2 =>
      rw [e2, okB] at q
      cases q
      rw [List.length_cons, h _ _ _ _ e2]
    | ex _ _ _ => rw [e2] at q; cases q
    | bad => rw [e2] at q; cases q
  | ex _ _ _ => rw [e1] at q; cases q
  | bad => rw [e1] at q; cases q
theorem part_ne {e : E} {f : Hpp → Res R} {G : Hpp} (h : isNon e = false) : partF e f G = (f G).bind fun r G1 => match r with
    | .val (.int i) => .ok (some i) G1
    | _ => .bad := by
  cases e <;> first | rfl | cases h
theorem kws_names : ∀ {kws : List Keyword}, (kws.all fun k => k.arg.isSome) = true → kws.map Keyword.arg = (kws.map fun k => k.arg.getD "").map some
  | [], _ => rfl
  | ⟨some a, e, p⟩ :: kws, h => by
    rw [List.all_cons, Bool.and_eq_true] at h
    rw [List.map_cons, kws_names h.2]
    rfl
  | ⟨none, e, p⟩ :: kws, h => by
    rw [List.all_cons, Bool.and_eq_true] at h
    cases h.1
theorem own_sl {c : CC} {tg : Tg} : (c.own tg).map (·.2) = tg.sl := by
  unfold CC.own
  rw [List.map_map]
  exact List.map_id _
theorem val_nm {b : Sb} (h : b ≠ .sortedR) : bootBuiltins b.nm = some b.val ∧ b.nm ≠ "__name__" ∧ (b.nm == ("__debug__" : Str)) = false := by
  cases b <;> first
    | exact ⟨by decide +kernel, by decide, by decide⟩
    | exact absurd rfl h
theorem ty_nm (t : Ty) : bootBuiltins t.sn = some (.type t.nm) ∧ t.sn ≠ "__name__" ∧ (t.sn == ("__debug__" : Str)) = false := by
  cases t <;> exact ⟨by decide +kernel, by decide, by decide⟩
theorem m1_slot (m : M1) : Slot "list" m.nm m.id ∧ typeOf (.builtin m.id) = pure (.type "method_descriptor") := by
  cases m
  · exact ⟨PySem.F.slot_list_append, PySem.F.type_list_append⟩
  · exact ⟨PySem.F.slot_list_extend, PySem.F.type_list_extend⟩
  · exact ⟨PySem.F.slot_list_remove, PySem.F.type_list_remove⟩
  · exact ⟨PySem.F.slot_list_pop, PySem.F.type_list_pop⟩
  · exact ⟨PySem.F.slot_list_index, PySem.F.type_list_index⟩
  · exact ⟨PySem.F.slot_list_count, PySem.F.type_list_count⟩
theorem m0_slot (m : M0) : Slot "list" m.nm m.id ∧ typeOf (.builtin m.id) = pure (.type "method_descriptor") := by
  cases m
  exact ⟨PySem.F.slot_list_pop, PySem.F.type_list_pop⟩
theorem pe_bool1 {X : Cx} {e : Expr} {op : BoolOp} {pos : Pos} {t : TE} (h : PE X e t) : PE X (.BoolOp op [e] pos) t := ⟨fun pins s σ H Q I q => h.run pins s σ H Q I q⟩
mutual
theorem okE : ∀ (e : E) {c : CC} {x : Expr} {X : Cx} {W : WT}, XOk X XC CF Γ c → chkE e c x = true → OkX X XC W x (ev CF Γ e)
  | .int i, c, x, X, W, xo, h => by
    unfold chkE at h
    split at h
    · have e := eq_of_beq h
      subst e
      exact .plain rfl x_int
    · cases h
  | .bl i, c, x, X, W, xo, h => by
    unfold chkE at h
    split at h
    · have e := eq_of_beq h
      subst e
      exact .plain rfl x_bl
    · cases h
  | .non, c, x, X, W, xo, h => by
    unfold chkE at h
    split at h
    · exact .plain rfl x_non
    · cases h
  | .str z, c, x, X, W, xo, h => by
    unfold chkE at h
    split at h
    · have e := of_decide_eq_true h
      subst e
      exact .plain rfl x_str
    · cases h
  | .var i, c, x, X, W, xo, h => by
    unfold chkE at h
    split at h
    · unfold CC.vis at h
      simp only [Bool.and_eq_true, Bool.or_eq_true, decide_eq_true_eq, Bool.not_eq_true'] at h
      obtain ⟨⟨⟨h1, h2⟩, h3⟩, h4⟩ := h
      refine .plain rfl (x_var (by rw [xo.N]; exact h1) ?_ h3 h4)
      rw [xo.sc]
      rcases h2 with (h2 | h2) | h2
      · exact .inl h2
      · exact .inr (.inl h2)
      · exact .inr (.inr h2)
    · cases h
  | .glob z, c, x, X, W, xo, h => by
    unfold chkE at h
    split at h
    · simp only [Bool.and_eq_true, decide_eq_true_eq, Bool.not_eq_true'] at h
      obtain ⟨⟨⟨h1, h2⟩, h3⟩, h4⟩ := h
      subst h1
      obtain ⟨d, u, v, e1, e2, r, hv⟩ := xo.gl _ h3
      have q := x_glob (W := W) (XC := XC) (xo.glb h2) e2 r h4 hv (pos := by assumption)
      refine .plain rfl ?_
      have e : ev CF Γ (.glob z) = fun _ G => okV d G := by funext ρ G; rw [ev, e1]
      rw [e]
      exact q
    · cases h
  | .tup es, c, x, X, W, xo, h => by
    unfold chkE at h
    split at h
    · simp only [Bool.and_eq_true, decide_eq_true_eq] at h
      obtain ⟨a1, a2, a3, a4⟩ := okEs es (W := W) xo h.2
      exact .plain rfl (x_tup a1 h.1 a2)
    · cases h
  | .lst es, c, x, X, W, xo, h => by
    unfold chkE at h
    split at h
    · simp only [Bool.and_eq_true, decide_eq_true_eq] at h
      obtain ⟨a1, a2, a3, a4⟩ := okEs es (W := W) xo h.2
      exact .plain rfl (x_lst a1 h.1 a2)
    · cases h
  | .dnew t, c, x, X, W, xo, h => by
    unfold chkE at h
    split at h
    · exact .plain rfl x_dnew
    · cases h
  | .bin op a b, c, x, X, W, xo, h => by
    unfold chkE at h
    split at h
    · simp only [Bool.and_eq_true, decide_eq_true_eq] at h
      obtain ⟨⟨h1, h2⟩, h3⟩ := h
      subst h1
      exact .plain rfl (x_bin xo.hu (okE a (W := W) xo h2).1 (okE b (W := W) xo h3).1)
    · cases h
  | .neg a, c, x, X, W, xo, h => by
    unfold chkE at h
    split at h
    · have q := x_neg xo.hu (okE a (W := W) xo h).1 (pos := by assumption)
      exact ⟨q, t_val q fun _ => rfl, fun _ _ _ e => by cases e⟩
    · cases h
  | .cmp op a b, c, x, X, W, xo, h => by
    unfold chkE at h
    split at h
    · simp only [Bool.and_eq_true, decide_eq_true_eq, Bool.not_eq_true'] at h
      obtain ⟨⟨⟨h1, h2⟩, h3⟩, h4⟩ := h
      subst h1
      exact ⟨x_cmp xo.hu h2 (okE a (W := W) xo h3).1 (okE b (W := W) xo h4).1, t_cmp xo.hu h2 (okE a (W := W) xo h3).1 (okE b (W := W) xo h4).1, fun _ _ _ e => by cases e⟩
    · cases h
  | .chain o p a b d, c, x, X, W, xo, h => by
    unfold chkE at h
    split at h
    · simp only [Bool.and_eq_true, decide_eq_true_eq, Bool.not_eq_true'] at h
      obtain ⟨⟨⟨⟨⟨h1, h2⟩, h3⟩, h4⟩, h5⟩, h6⟩ := h
      subst h1 h2
      exact ⟨x_chain xo.hu h3 (okE a (W := W) xo h4).1 (okE b (W := W) xo h5).1 (okE d (W := W) xo h6).1, t_chain xo.hu h3 (okE a (W := W) xo h4).1 (okE b (W := W) xo h5).1 (okE d (W := W) xo h6).1, fun _ _ _ e => by cases e⟩
    · cases h
  | .and a b, c, x, X, W, xo, h => by
    unfold chkE at h
    split at h
    · rw [Bool.and_eq_true] at h
      obtain ⟨h1, h2⟩ := h
      obtain ⟨a1, a2, a3⟩ := okE a (W := W) xo h1
      split at h2
      · obtain ⟨b1, b2, b3⟩ := okE b (W := W) xo h2
        have w := w_and a2 (w_and1 (pos := by assumption) b2)
        exact ⟨x_and a1 (pe_bool1 b1), w.pt, fun _ _ _ _ => w⟩
      · obtain ⟨b1, b2, b3⟩ := okE b (W := W) xo h2
        have w := w_and a2 (b3 _ _ _ rfl)
        exact ⟨x_and a1 b1, w.pt, fun _ _ _ _ => w⟩
    · cases h
  | .or a b, c, x, X, W, xo, h => by
    unfold chkE at h
    split at h
    · rw [Bool.and_eq_true] at h
      obtain ⟨h1, h2⟩ := h
      obtain ⟨a1, a2, a3⟩ := okE a (W := W) xo h1
      split at h2
      · obtain ⟨b1, b2, b3⟩ := okE b (W := W) xo h2
        have w := w_or a2 (w_or1 (pos := by assumption) b2)
        exact ⟨x_or a1 (pe_bool1 b1), w.pt, fun _ _ _ _ => w⟩
      · obtain ⟨b1, b2, b3⟩ := okE b (W := W) xo h2
        have w := w_or a2 (b3 _ _ _ rfl)
        exact ⟨x_or a1 b1, w.pt, fun _ _ _ _ => w⟩
    · cases h
  | .not a, c, x, X, W, xo, h => by
    unfold chkE at h
    split at h
    · obtain ⟨a1, a2, a3⟩ := okE a (W := W) xo h
      exact ⟨x_not a1, t_not a2, fun _ _ _ e => by cases e⟩
    · cases h
  | .ite t a b, c, x, X, W, xo, h => by
    unfold chkE at h
    split at h
    · simp only [Bool.and_eq_true] at h
      obtain ⟨⟨h1, h2⟩, h3⟩ := h
      obtain ⟨t1, t2, t3⟩ := okE t (W := W) xo h1
      obtain ⟨a1, a2, a3⟩ := okE a (W := W) xo h2
      obtain ⟨b1, b2, b3⟩ := okE b (W := W) xo h3
      exact ⟨x_ite t2 a1 b1, t_ite t2 a2 b2, fun _ _ _ e => by cases e⟩
    · cases h
  | .idx a i, c, x, X, W, xo, h => by
    unfold chkE at h
    split at h
    · simp only [Bool.and_eq_true] at h
      obtain ⟨⟨h1, h2⟩, h3⟩ := h
      exact .plain rfl (x_idx xo.hu (okE a (W := W) xo h2).1 (okE i (W := W) xo h3).1 (ix_of h1))
    · cases h
  | .slc a lo hi, c, x, X, W, xo, h => by
    unfold chkE at h
    split at h
    · simp only [Bool.and_eq_true] at h
      obtain ⟨⟨h1, h2⟩, h3⟩ := h
      have part : ∀ (e : E) (p : Option Expr), (∀ p', p = some p' → chkE e c p' = true → PE X p' (tR X XC W (ev CF Γ e))) → (match p with
          | none => isNon e
          | some p => !isNon e && chkE e c p) = true → PO X p (tP X XC W fun ρ G => partF e (fun G2 => ev CF Γ e ρ G2) G) := by
        intro e p hp hh
        cases p with
        | none =>
          have e1 : e = .non := by cases e <;> first | rfl | cases hh
          subst e1
          exact p_none
        | some p =>
          simp only [Bool.and_eq_true, Bool.not_eq_true'] at hh
          have e1 : (fun (ρ : Env) (G : Hpp) => partF e (fun G2 => ev CF Γ e ρ G2) G) = fun ρ G => (ev CF Γ e ρ G).bind fun r G1 => match r with
            | .val (.int i) => .ok (some i) G1
            | _ => .bad := by
            funext ρ G
            exact part_ne hh.1
          rw [e1]
          exact p_some (hp p rfl hh.2)
      exact .plain rfl (x_slc (okE a (W := W) xo h1).1 (part lo _ (fun p' e q => (okE lo (W := W) xo q).1) h2) (part hi _ (fun p' e q => (okE hi (W := W) xo q).1) h3))
    · cases h
  | .call f es ks dd, c, x, X, W, xo, h => by
    unfold chkE at h
    split at h
    · simp only [Bool.and_eq_true, decide_eq_true_eq, Bool.not_eq_true'] at h
      obtain ⟨⟨⟨⟨⟨⟨h1, h2⟩, h3⟩, h4⟩, h5⟩, h6⟩, h7⟩ := h
      subst h1
      obtain ⟨a1, a2, a3, a4⟩ := okEs es (W := W) xo h6
      obtain ⟨b1, b2⟩ := okKs ks (W := W) xo h7
      obtain ⟨k, hr, hf⟩ := xo.fns
      obtain ⟨fp, fd, ps, F, m, kp, sh⟩ := hf _ h4
      refine .plain rfl (x_call F hr (xo.glb h2) m kp h3 sh (fun _ _ _ _ _ _ _ z => z.elim) a1 b1 (kws_names h5) a2 (fun ρ G ds G' q => by rw [b2 ρ G ds G' q, List.length_map]) (fun e r q => star_of (a3 e (by rw [q]; exact List.mem_cons_self ..))) (fun pos => star_plain pos a3) fun q => ?_)
      have e := a4 q
      subst e
      rfl
    · cases h
  | .len a, c, x, X, W, xo, h => by
    unfold chkE at h
    split at h
    · simp only [Bool.and_eq_true, decide_eq_true_eq] at h
      obtain ⟨⟨⟨h1, h2⟩, h3⟩, h4⟩ := h
      subst h1
      exact .plain rfl (x_len (xo.blt h2 boot_len (by decide) (by decide)) (okE a (W := W) xo h4).1 (star1 h3))
    · cases h
  | .abs a, c, x, X, W, xo, h => by
    unfold chkE at h
    split at h
    · simp only [Bool.and_eq_true, decide_eq_true_eq] at h
      obtain ⟨⟨⟨h1, h2⟩, h3⟩, h4⟩ := h
      subst h1
      exact .plain rfl (x_abs (xo.blt h2 (by decide +kernel) (by decide) (by decide)) (okE a (W := W) xo h4).1 (star1 h3))
    · cases h
  | .int1 a, c, x, X, W, xo, h => by
    unfold chkE at h
    split at h
    · simp only [Bool.and_eq_true, decide_eq_true_eq] at h
      obtain ⟨⟨⟨h1, h2⟩, h3⟩, h4⟩ := h
      subst h1
      exact .plain rfl (x_int1 (xo.blt h2 (by decide +kernel) (by decide) (by decide)) (okE a (W := W) xo h4).1 (star1 h3))
    · cases h
  | .min2 a b, c, x, X, W, xo, h => by
    unfold chkE at h
    split at h
    · simp only [Bool.and_eq_true, decide_eq_true_eq] at h
      obtain ⟨⟨⟨⟨⟨h1, h2⟩, h3⟩, h3'⟩, h4⟩, h5⟩ := h
      subst h1
      exact .plain rfl (x_min2 xo.hu xo.calm (xo.blt h2 (by decide +kernel) (by decide) (by decide)) (okE a (W := W) xo h4).1 (okE b (W := W) xo h5).1 (star2 h3 h3') (star1 h3'))
    · cases h
  | .max2 a b, c, x, X, W, xo, h => by
    unfold chkE at h
    split at h
    · simp only [Bool.and_eq_true, decide_eq_true_eq] at h
      obtain ⟨⟨⟨⟨⟨h1, h2⟩, h3⟩, h3'⟩, h4⟩, h5⟩ := h
      subst h1
      exact .plain rfl (x_max2 xo.hu xo.calm (xo.blt h2 (by decide +kernel) (by decide) (by decide)) (okE a (W := W) xo h4).1 (okE b (W := W) xo h5).1 (star2 h3 h3') (star1 h3'))
    · cases h
  | .isi a t, c, x, X, W, xo, h => by
    unfold chkE at h
    split at h
    · simp only [Bool.and_eq_true, decide_eq_true_eq] at h
      obtain ⟨⟨⟨⟨⟨h1, h2⟩, h3⟩, h4⟩, h5⟩, h6⟩ := h
      subst h1 h4
      obtain ⟨t1, t2, t3⟩ := ty_nm t
      exact .plain rfl (x_isi (xo.blt h2 (by decide +kernel) (by decide) (by decide)) (xo.blt h5 t1 t2 t3) (okE a (W := W) xo h6).1 (star2 h3 rfl))
    · cases h
  | .seq b a, c, x, X, W, xo, h => by
    unfold chkE at h
    split at h
    · simp only [Bool.and_eq_true, decide_eq_true_eq] at h
      obtain ⟨⟨⟨⟨h1, h2⟩, h3⟩, h4⟩, h5⟩ := h
      subst h1
      obtain ⟨t1, t2, t3⟩ := val_nm h2
      exact .plain rfl (x_seq xo.hu xo.calm (xo.blt h3 t1 t2 t3) (okE a (W := W) xo h5).1 (star1 h4))
    · cases h
  | .lrng a b, c, x, X, W, xo, h => by
    unfold chkE at h
    cases h
  | .comp e tg i ifs, c, x, X, W, xo, h => by
    unfold chkE at h
    split at h
    · simp only [Bool.and_eq_true] at h
      obtain ⟨⟨⟨⟨⟨h1, h2⟩, h3⟩, h4⟩, h5⟩, h6⟩ := h
      have ok := blkOk_by h3
      rw [← xo.sc, ← xo.N] at ok
      refine .plain rfl (PE.imp (pe_lc (g := gOf X.K tg) (te := tR X XC WX (ev CF Γ e)) (tt := tX X XC WX RelB (evIf CF Γ ifs)) xo.calm (nd_of xo) (okI i (W := W) xo h1) ok (fun s H C cl fp => pg_of (xo.blk ok.kind s H C cl fp) h4) (fun s H C cl fp => okIf ifs (W := WX) (xo.blk ok.kind s H C cl fp) h5) (fun s H C cl fp => (okE e (W := WX) (xo.blk ok.kind s H C cl fp) h6).1) (set_of h2)) fun σ H Q q => ?_)
      exact lc_wish (fun j hj => by rw [own_sl] at hj; exact hj) (fun j hj => by rw [own_sl]; exact hj) q
    · cases h
  | .dcomp t k e tg i ifs, c, x, X, W, xo, h => by
    unfold chkE at h
    split at h
    · simp only [Bool.and_eq_true] at h
      obtain ⟨⟨⟨⟨⟨⟨h1, h2⟩, h3⟩, h4⟩, h5⟩, h6⟩, h7⟩ := h
      have ok := blkOk_by h3
      rw [← xo.sc, ← xo.N] at ok
      refine .plain rfl (PE.imp (pe_dc (g := gOf X.K tg) (tk := tR X XC WX (ev CF Γ k)) (tv := tR X XC WX (ev CF Γ e)) (tt := tX X XC WX RelB (evIf CF Γ ifs)) xo.calm (nd_of xo) (okI i (W := W) xo h1) ok (fun s H C cl fp => pg_of (xo.blk ok.kind s H C cl fp) h4) (fun s H C cl fp => okIf ifs (W := WX) (xo.blk ok.kind s H C cl fp) h5) (fun s H C cl fp => (okE k (W := WX) (xo.blk ok.kind s H C cl fp) h6).1) (fun s H C cl fp => (okE e (W := WX) (xo.blk ok.kind s H C cl fp) h7).1) (set_of h2)) fun σ H Q q => ?_)
      exact dc_wish (fun j hj => by rw [own_sl] at hj; exact hj) (fun j hj => by rw [own_sl]; exact hj) q
    · cases h
  | .meth0 m o, c, x, X, W, xo, h => by
    unfold chkE at h
    split at h
    · simp only [Bool.and_eq_true, decide_eq_true_eq] at h
      obtain ⟨⟨⟨h1, h2⟩, h3⟩, h4⟩ := h
      subst h1
      exact .plain rfl (x_meth0 (m0_slot m).1 (m0_slot m).2 (okE o (W := W) xo h4).1 (base_of h2) h3)
    · cases h
  | .meth1 m o a, c, x, X, W, xo, h => by
    unfold chkE at h
    split at h
    · simp only [Bool.and_eq_true, decide_eq_true_eq] at h
      obtain ⟨⟨⟨⟨⟨h1, h2⟩, h3⟩, h4⟩, h5⟩, h6⟩ := h
      subst h1
      exact .plain rfl (x_meth1 xo.hu (m1_slot m).1 (m1_slot m).2 (okE o (W := W) xo h5).1 (okE a (W := W) xo h6).1 (base_of h2) h3 (star1 h4))
    · cases h
theorem okEs : ∀ (es : Es) {c : CC} {xs : List Expr} {X : Cx} {W : WT}, XOk X XC CF Γ c → chkEs es c xs = true → OkL X XC W CF Γ xs es
  | .nil, c, xs, X, W, xo, h => by
    unfold chkEs at h
    split at h
    · exact ⟨a_nil, fun ρ G ds G' q => by cases q; rfl, fun x hx => (by cases hx), fun _ => rfl⟩
    · cases h
  | .cons e r, c, xs, X, W, xo, h => by
    unfold chkEs at h
    split at h
    · simp only [Bool.and_eq_true] at h
      obtain ⟨⟨h1, h2⟩, h3⟩ := h
      obtain ⟨a1, a2, a3, a4⟩ := okEs r (W := W) xo h3
      refine ⟨a_cons (okE e (W := W) xo h2).1 a1 (star_of h1), evs_len a2, fun x hx => ?_, fun q => by cases q⟩
      rcases List.mem_cons.mp hx with z | z
      · rw [z]; exact h1
      · exact a3 x z
    · cases h
theorem okKs : ∀ (es : Es) {c : CC} {xs : List Keyword} {X : Cx} {W : WT}, XOk X XC CF Γ c → chkKs es c xs = true → OkK X XC W CF Γ xs es
  | .nil, c, xs, X, W, xo, h => by
    unfold chkKs at h
    split at h
    · exact ⟨k_nil, fun ρ G ds G' q => by cases q; rfl⟩
    · cases h
  | .cons e r, c, xs, X, W, xo, h => by
    unfold chkKs at h
    split at h
    · simp only [Bool.and_eq_true] at h
      obtain ⟨a1, a2⟩ := okKs r (W := W) xo h.2
      exact ⟨k_cons (okE e (W := W) xo h.1).1 a1, evs_len a2⟩
    · cases h
theorem okIf : ∀ (es : Es) {c : CC} {xs : List Expr} {X : Cx} {W : WT}, XOk X XC CF Γ c → chkIf es c xs = true → PTs X xs (tX X XC W RelB (evIf CF Γ es))
  | .nil, c, xs, X, W, xo, h => by
    unfold chkIf at h
    split at h
    · exact pts_nil'
    · cases h
  | .cons e r, c, xs, X, W, xo, h => by
    unfold chkIf at h
    split at h
    · exact pts_of (okE e (W := W) xo h).2.1
    · cases h
theorem okI : ∀ (i : I) {c : CC} {tgE x : Expr} {X : Cx} {W : WT}, XOk X XC CF Γ c → chkI i c tgE x = true → PI X tgE x (tI X XC W (evI CF Γ i))
  | .ex e, c, tgE, x, X, W, xo, h => by
    unfold chkI at h
    exact i_ex (okE e (W := W) xo h).1
  | .rng1 a, c, tgE, x, X, W, xo, h => by
    unfold chkI at h
    split at h
    · simp only [Bool.and_eq_true, decide_eq_true_eq] at h
      obtain ⟨⟨⟨h1, h2⟩, h3⟩, h4⟩ := h
      subst h1
      exact i_rng1 (xo.blt h2 boot_range (by decide) (by decide)) (okE a (W := W) xo h4).1 (star1 h3)
    · cases h
  | .rng2 a b, c, tgE, x, X, W, xo, h => by
    unfold chkI at h
    split at h
    · simp only [Bool.and_eq_true, decide_eq_true_eq] at h
      obtain ⟨⟨⟨⟨⟨h1, h2⟩, h3⟩, h3'⟩, h4⟩, h5⟩ := h
      subst h1
      exact i_rng2 (xo.blt h2 boot_range (by decide) (by decide)) (okE a (W := W) xo h4).1 (okE b (W := W) xo h5).1 (star2 h3 h3') (star1 h3')
    · cases h
  | .enum a, c, tgE, x, X, W, xo, h => by
    unfold chkI at h
    split at h
    · simp only [Bool.and_eq_true, decide_eq_true_eq] at h
      obtain ⟨⟨⟨h1, h2⟩, h3⟩, h4⟩ := h
      subst h1
      exact i_enum (xo.blt h2 boot_enumerate (by decide) (by decide)) (okE a (W := W) xo h4).1 (star1 h3)
    · cases h
  | .zip a b, c, tgE, x, X, W, xo, h => by
    unfold chkI at h
    split at h
    · simp only [Bool.and_eq_true, decide_eq_true_eq] at h
      obtain ⟨⟨⟨⟨⟨h1, h2⟩, h3⟩, h3'⟩, h4⟩, h5⟩ := h
      subst h1
      exact i_zip (xo.blt h2 PyProof.Rows.boot_zip (by decide) (by decide)) (okE a (W := W) xo h4).1 (okE b (W := W) xo h5).1 (star2 h3 h3') (star1 h3')
    · cases h
  | .items a, c, tgE, x, X, W, xo, h => by
    unfold chkI at h
    cases h
end
end
end LK

set_option Elab.async false
set_option linter.all false
set_option autoImplicit false
set_option maxRecDepth 100000
set_option maxHeartbeats 4000000
/-! LkSnd2: what the checker passes does what the language says: statements, defs. -/
namespace LK
open PySem PySem.Spec PyProof.Rows L2

section
variable {XC : XCT} {CF : CallF} {Γ : Str → Option D} {X : Cx} {W : WT} {c : CC}
theorem swp_ok (xo : XOk X XC CF Γ c) {ts vs : List Expr} {k k2 : Nat} {p p2 : Pos} {r : Option (List Str)} (h : swp c.sc ts vs = some r) : swappedStores [.Tuple ts k p] (.Tuple vs k2 p2) X.env = pure r := by
  have hb : X.env.blockKind = .function := by unfold Env.blockKind; rw [xo.sc, xo.kind]; rfl
  have hk : ∀ id, X.env.kindOf id = c.sc.names.lookup id := fun id => by show X.env.scope.names.lookup id = _; rw [xo.sc]
  have hbb : (ScopeKind.function != ScopeKind.function) = false := by decide
  unfold swappedStores
  unfold swp at h
  simp only [hb, hk, hbb, Bool.or_false]
  split at h
  · rename_i h1
    cases h
    exact if_pos h1
  · rename_i h1
    refine Eq.trans (if_neg h1) ?_
    split at h
    · rename_i h2
      cases h
      exact if_pos h2
    · rename_i h2
      refine Eq.trans (if_neg h2) ?_
      dsimp only at h
      split at h
      · rename_i h3
        cases h
        exact if_pos h3
      · rename_i h3
        refine Eq.trans (if_neg h3) ?_
        split at h
        · rename_i h4
          cases h
          exact if_pos h4
        · rename_i h4
          refine Eq.trans (if_neg h4) ?_
          split at h
          · cases h
          · rename_i h5
            cases h
            exact if_neg h5
theorem sst_of {tg : Expr} {v : Expr} (h : ∀ vs k pos, v = .Tuple vs k pos → False) : swappedStores [tg] v X.env = pure none := by
  cases v with
  | Tuple a b c => exact (h a b c rfl).elim
  | _ => cases tg <;> rfl
theorem sst_sub {a b : Expr} {p : Pos} {v : Expr} : swappedStores [.Subscript a b p] v X.env = pure none := by
  cases v <;> rfl
theorem sub_asg {o i : Expr} {pos : Pos} (h : notSlice i = true) (v : Value) : assign (.Subscript o i pos) X.env v = (do
      let ov ← holding [v] (eval o X.env)
      let iv ← holding [v, ov] (eval i X.env)
      standAt pos
      holding [v, ov, iv] (setItem ov iv v)
      release [v, ov, iv] []) := by
  cases i <;> first | rfl | cases h
theorem sw_cell {e : Expr} {y : Str} {py : Pos} {l : Nat} (h : ¬ X.env.scope.names.lookup y = some .local) : swapsWith e (some (.Name y py)) l X.env = pure false := by
  have hk : (X.env.kindOf y == some .local) = false := beq_eq_false_iff_ne.mpr h
  cases e <;> first
    | rfl
    | (unfold swapsWith
       simp only [hk, Bool.and_false, Bool.false_and])
theorem sole_of {e t : Expr} {l : Nat} {env : PySem.Env} (h : notComp e = true) : swapsWithSole [t] e l env = pure false := sw_of h
mutual
theorem okS : ∀ (st : S) {x : Stmt}, XOk X XC CF Γ c → PassesOwn (model X.prog X.w) X.A X.env X.xe → chkS st c x = true → PS X x (tS X XC W (exS CF Γ st))
  | .set i e, x, xo, hp, h => by
    unfold chkS at h
    split at h
    · rw [Bool.and_eq_true, Bool.and_eq_true, Bool.or_eq_true] at h
      obtain ⟨⟨h1, h2⟩, h3⟩ := h
      obtain ⟨l1, l2, l3⟩ := xo.loc h1
      rcases h3 with h3 | h3
      · rw [Bool.or_eq_true] at h3
        rcases h3 with h3 | h3
        · exact s_set (nd_of xo) l1 l2 l3 (okE e xo h2).1 (sw_of h3)
        · exact s_set (nd_of xo) l1 l2 l3 (okE e xo h2).1 (sw_cell (fun z => by
            rw [xo.sc] at z
            unfold CC.lcl at h3
            rw [z] at h3
            cases h3))
      · split at h3
        · split at h3
          · rename_i elt g scope p _ e tg it ifs
            simp only [Bool.and_eq_true, decide_eq_true_eq, Bool.not_eq_true'] at h3
            obtain ⟨⟨k1, k2⟩, k3⟩ := h3
            unfold chkE at h2
            split at h2
            · rename_i elt' tgE iter ifsE scope' p' hx
              cases hx
              simp only [Bool.and_eq_true] at h2
              obtain ⟨⟨⟨⟨⟨g1, g2⟩, g3⟩, g4⟩, g5⟩, g6⟩ := h2
              have ok := blkOk_by g3
              rw [← xo.sc, ← xo.N] at ok
              have kl := k1
              rw [← xo.sc] at kl
              exact s_setLc xo.calm (nd_of xo) l1 kl (sw_true (by rw [xo.sc]; exact xo.kind) kl k2 k3) (okI it (W := W) xo g1) ok (fun j hj => by rw [own_sl] at hj; exact hj) (fun j hj => by rw [own_sl]; exact hj)
                (fun s H C cl fp => pg_of (xo.blk ok.kind s H C cl fp) g4) (fun s H C cl fp => okIf ifs (W := WX) (xo.blk ok.kind s H C cl fp) g5) (fun s H C cl fp => (okE e (W := WX) (xo.blk ok.kind s H C cl fp) g6).1) (set_of g2)
            · cases h2
          · cases h3
        · cases h3
    · cases h
  | .setT js e, x, xo, hp, h => by
    unfold chkS at h
    split at h
    · rw [Bool.and_eq_true, Bool.and_eq_true] at h
      obtain ⟨⟨h1, h2⟩, h3⟩ := h
      have pg := fun (k : Nat) (pos : Pos) => pg_of xo (tg := .many js) (tgE := .Tuple _ k pos) h1
      split at h3
      · rename_i ts _ _ _ _ vs k2 p2
        split at h3
        · rename_i hsw
          exact s_setT (okE e xo h2).1 (pg _ _) (sole_of rfl) (swp_ok xo hsw) rfl
        · rename_i names hsw
          rw [Bool.and_eq_true] at h3
          obtain ⟨h3, h4⟩ := h3
          split at h4
          · rename_i es
            unfold chkPar at h3
            unfold chkE at h2
            dsimp only at h2
            rw [Bool.and_eq_true] at h2
            obtain ⟨a1, a2, a3, a4⟩ := okEs es (W := W) xo h2.2
            split at h3
            · simp only [Bool.and_eq_true, decide_eq_true_eq, CC.lcl] at h3
              obtain ⟨⟨⟨⟨⟨q1, q2⟩, q3⟩, q4⟩, q5⟩, q6⟩ := h3
              subst q2
              exact s_par xo.calm (nd_of xo) (by rw [xo.N]; exact q5) (by rw [xo.N]; exact q6) q1 (by rw [xo.sc]; exact q3) (by rw [xo.sc]; exact q4) a1 (swp_ok xo hsw) (sole_of rfl)
            · simp only [Bool.and_eq_true, decide_eq_true_eq, CC.lcl] at h3
              obtain ⟨⟨⟨⟨⟨⟨⟨⟨⟨q1, q2⟩, q3⟩, q4⟩, q5⟩, q6⟩, q7⟩, q8⟩, q9⟩, q10⟩ := h3
              subst q4
              exact s_par3 xo.calm (nd_of xo) (by rw [xo.N]; exact q8) (by rw [xo.N]; exact q9) (by rw [xo.N]; exact q10) q1 q2 q3 (by rw [xo.sc]; exact q5) (by rw [xo.sc]; exact q6) (by rw [xo.sc]; exact q7) a1 (swp_ok xo hsw) (sole_of rfl)
            · cases h3
          · cases h4
        · cases h3
      · rename_i hnt
        exact s_setT (okE e xo h2).1 (pg _ _) (sole_of h3) (sst_of hnt) rfl
    · cases h
  | .setI o i e, x, xo, hp, h => by
    unfold chkS at h
    split at h
    · simp only [Bool.and_eq_true] at h
      obtain ⟨⟨⟨⟨h1, h2⟩, h3⟩, h4⟩, h5⟩ := h
      exact s_setI xo.hu (okE e xo h3).1 (okE o xo h4).1 (okE i xo h5).1 (sole_of h2) sst_sub (sub_asg h1)
    · cases h
  | .aug i op e, x, xo, hp, h => by
    unfold chkS at h
    split at h
    · simp only [Bool.and_eq_true, Bool.or_eq_true, decide_eq_true_eq] at h
      obtain ⟨⟨⟨h1, h2⟩, h3⟩, h4⟩ := h
      obtain ⟨l1, l2, l3⟩ := xo.loc h3
      subst h1
      exact s_aug (nd_of xo) l1 l2 l3 (by rcases h2 with (h2 | h2) | h2; exact .inl h2; exact .inr (.inl h2); exact .inr (.inr h2)) (okE e xo h4).1
    · cases h
  | .augI _ _ _ _, x, xo, hp, h => by
    unfold chkS at h
    cases h
  | .expr e, x, xo, hp, h => by
    unfold chkS at h
    split at h
    · rw [Bool.and_eq_true] at h
      exact s_expr (okE e xo h.2).1 (sw_of h.1)
    · cases h
  | .ret e, x, xo, hp, h => by
    unfold chkS at h
    split at h
    · exact s_ret (okE e xo h).1
    · cases h
  | .retN, x, xo, hp, h => by
    unfold chkS at h
    split at h
    · exact s_retN
    · cases h
  | .ite t a b, x, xo, hp, h => by
    unfold chkS at h
    split at h
    · simp only [Bool.and_eq_true] at h
      exact s_if (okE t xo h.1.1).2.1 (okSs a xo hp h.1.2) (okSs b xo hp h.2)
    · cases h
  | .whl t b, x, xo, hp, h => by
    unfold chkS at h
    split at h
    · simp only [Bool.and_eq_true] at h
      exact s_whl hp (okE t xo h.1).2.1 (okSs b xo hp h.2)
    · cases h
  | .for_ tg i b, x, xo, hp, h => by
    unfold chkS at h
    split at h
    · simp only [Bool.and_eq_true] at h
      obtain ⟨⟨⟨h1, h2⟩, h3⟩, h4⟩ := h
      exact s_for hp xo.calm (okI i xo h2) (pg_of xo h1) (okSs b xo hp h4) (set_of h3)
    · cases h
  | .brk, x, xo, hp, h => by
    unfold chkS at h
    split at h
    · exact s_brk
    · cases h
  | .cnt, x, xo, hp, h => by
    unfold chkS at h
    split at h
    · exact s_cnt
    · cases h
  | .pass, x, xo, hp, h => by
    unfold chkS at h
    split at h
    · exact s_pass
    · cases h
  | .raise _ _, x, xo, hp, h => by
    unfold chkS at h
    cases h
  | .try_ _ _ _ _, x, xo, hp, h => by
    unfold chkS at h
    cases h
theorem okSs : ∀ (st : Ss) {x : List Stmt}, XOk X XC CF Γ c → PassesOwn (model X.prog X.w) X.A X.env X.xe → chkSs st c x = true → PSs X x (tS X XC W (exSs CF Γ st))
  | .nil, x, xo, hp, h => by
    unfold chkSs at h
    split at h
    · exact s_nil
    · cases h
  | .cons s r, x, xo, hp, h => by
    unfold chkSs at h
    split at h
    · simp only [Bool.and_eq_true] at h
      exact s_cons (okS s xo hp h.1) (okSs r xo hp h.2)
    · cases h
end
end
end LK

set_option Elab.async false
set_option linter.all false
set_option autoImplicit false
set_option maxRecDepth 100000
set_option maxHeartbeats 4000000
/-! LkTop: all defs of a program, by the depth of calls. -/
namespace LK
open PySem PySem.Spec PyProof.Rows L2

/-! ### behind a call -/
section
variable {P : Program} {w : World} {K : PySem.W.Frag} {ι ι' : List Addr} {G G1 : Hpp} {H H' : Hp}
theorem lowL_all {n : Nat} : ∀ {ds : List D}, D.lowL n ds = true ↔ ∀ d ∈ ds, D.low n d = true
  | [] => by simp [D.lowL]
  | d :: ds => by rw [D.lowL, Bool.and_eq_true, lowL_all]; simp
mutual
theorem RV.low : ∀ {v : V} {d : D}, RV K ι H v d → D.low ι.length d = true
  | _, _, .non => rfl
  | _, _, .bl b => rfl
  | _, _, .int b => rfl
  | _, _, .str b => rfl
  | _, _, .tup h hs => by rw [D.low]; exact RVs.low hs
  | _, _, .ref e => by rw [D.low]; exact decide_eq_true (List.getElem?_eq_some_iff.mp e).1
  | _, _, .frl h hs => by rw [D.low]; exact RVs.low hs
theorem RVs.low : ∀ {vs : List V} {ds : List D}, RVs K ι H vs ds → D.lowL ι.length ds = true
  | _, _, .nil => rfl
  | _, _, .cons h hs => by rw [D.lowL, RV.low h, RVs.low hs]; rfl
end
mutual
theorem RV.down {n : Nat} (p : ∀ i a, i < n → ι'[i]? = some a → ι[i]? = some a) : ∀ {v : V} {d : D}, RV K ι' H v d → D.low n d = true → RV K ι H v d
  | _, _, .non, _ => .non
  | _, _, .bl b, _ => .bl b
  | _, _, .int b, _ => .int b
  | _, _, .str b, _ => .str b
  | _, _, .tup h hs, l => by rw [D.low] at l; exact .tup h (RVs.down p hs l)
  | _, _, .ref e, l => by rw [D.low] at l; exact .ref (p _ _ (of_decide_eq_true l) e)
  | _, _, .frl h hs, l => by rw [D.low] at l; exact .frl h (RVs.down p hs l)
theorem RVs.down {n : Nat} (p : ∀ i a, i < n → ι'[i]? = some a → ι[i]? = some a) : ∀ {vs : List V} {ds : List D}, RVs K ι' H vs ds → D.lowL n ds = true → RVs K ι H vs ds
  | _, _, .nil, _ => .nil
  | _, _, .cons h hs, l => by rw [D.lowL, Bool.and_eq_true] at l; exact .cons (RV.down p h l.1) (RVs.down p hs l.2)
end
theorem all_mem {α β : Type} {F : α → β → Prop} {p : β → Prop} : ∀ {xs : List α} {ys : List β}, Paired F xs ys → (∀ y ∈ ys, p y) → Paired (fun x y => F x y ∧ p y) xs ys
  | _, _, .nil, _ => .nil
  | _, _, .cons h hs, q => .cons ⟨h, q _ (List.mem_cons_self ..)⟩ (all_mem hs fun y hy => q y (List.mem_cons_of_mem _ hy))
theorem CellOk.down {n : Nat} (p : ∀ i a, i < n → ι'[i]? = some a → ι[i]? = some a) {a : Addr} {c : Cell} (h : CellOk P w K ι' H a c) (l : c.low n = true) : CellOk P w K ι H a c := by
  cases c with
  | lst ds => obtain ⟨xs, h1, h2⟩ := h; exact ⟨xs, h1, h2.down p l⟩
  | dct t kvs =>
    simp only [Cell.low, List.all_eq_true, Bool.and_eq_true] at l
    cases t with
    | false =>
      obtain ⟨ks, h1, h2⟩ := h
      exact ⟨ks, h1, L2.Paired.mapP (all_mem h2 l) fun _ _ q => ⟨q.1.1.down p q.2.1, q.1.2.down p q.2.2⟩⟩
    | true =>
      obtain ⟨ks, h1, h3, h2⟩ := h
      exact ⟨ks, h1, h3, L2.Paired.mapP (all_mem h2 l) fun _ _ q => ⟨q.1.1, q.1.2.1, q.1.2.2.1, q.1.2.2.2.1.down p q.2.1, let ⟨y, y1, y2⟩ := q.1.2.2.2.2; ⟨y, y1, y2.down p q.2.2⟩⟩⟩
  | set ds => exact h.elim
theorem pair_low {F : V → D → Prop} : True := trivial
theorem CellOk.low {a : Addr} {c : Cell} (h : CellOk P w K ι H a c) : c.low ι.length = true := by
  cases c with
  | lst ds => obtain ⟨xs, h1, h2⟩ := h; exact h2.low
  | dct t kvs =>
    have gen : ∀ {α : Type} {F : α → D × D → Prop} {ks : List α} {kvs : List (D × D)}, Paired F ks kvs → (∀ x p, F x p → D.low ι.length p.1 = true ∧ D.low ι.length p.2 = true) → (kvs.all fun p => D.low ι.length p.1 && D.low ι.length p.2) = true := by
      intro α F ks kvs hp hF
      induction hp with
      | nil => rfl
      | cons h hs ih => rw [List.all_cons, ih, (hF _ _ h).1, (hF _ _ h).2]; rfl
    cases t with
    | false => obtain ⟨ks, h1, h2⟩ := h; exact gen h2 fun x p q => ⟨q.1.low, q.2.low⟩
    | true => obtain ⟨ks, h1, h3, h2⟩ := h; exact gen h2 fun x p q => ⟨q.2.2.2.1.low, let ⟨y, y1, y2⟩ := q.2.2.2.2; y2.low⟩
  | set ds => exact h.elim
theorem old_low (hr : HR P w K ι G H) (ho : oldOk G G1 = true) {n : Nat} {c : Cell} (hn : n < G.length) (e : G1[n]? = some c) : c.low ι.length = true := by
  unfold oldOk at ho
  rw [List.all_eq_true] at ho
  have q := ho n (List.mem_range.mpr hn)
  rw [e, Bool.or_eq_true, decide_eq_true_eq] at q
  rcases q with q | q
  · obtain ⟨a, _, hc⟩ := hr.addr q.symm
    exact hc.low
  · rw [hr.len]; exact q
theorem pre_down (p : ι <+: ι') : ∀ i a, i < ι.length → ι'[i]? = some a → ι[i]? = some a := fun i a hi e => by
  obtain ⟨t, rfl⟩ := p
  rw [List.getElem?_append_left hi] at e
  exact e
theorem gc_ok (hr : HR P w K ι G H) (hr' : HR P w K ι' G1 H') (f : Fr2 ι H ι' H') {x : V} {v v2 : D} {G2 : Hpp} (hv : RV K ι' H' x v) (e : gc G v G1 = .ok v2 G2) : ∃ ι2, Fr2 ι H ι2 H' ∧ HR P w K ι2 G2 H' ∧ RV K ι2 H' x v2 := by
  have pd := pre_down f.pre
  unfold gc at e
  split at e
  · rename_i ho
    obtain ⟨ho, hlen⟩ := ho
    have base : HR P w K ι (G1.take G.length) H' := by
      refine ⟨by rw [List.length_take, hr.len]; omega, hr.nd, fun n c a e1 e2 => ?_⟩
      have hn : n < G.length := by
        have := (List.getElem?_eq_some_iff.mp e1).1
        rw [List.length_take] at this
        omega
      rw [List.getElem?_take_of_lt hn] at e1
      exact (hr'.cell n c a e1 (pre_get f.pre e2)).down pd (old_low hr ho hn e1)
    have f0 : Fr2 ι H ι H' := ⟨List.prefix_refl _, fun n a h e => (by rw [List.getElem?_eq_none h] at e; cases e), f.ext⟩
    split at e
    · rename_i hl
      cases e
      exact ⟨ι, f0, base, hv.down pd (by rw [hr.len]; exact hl)⟩
    · rename_i hl
      split at e
      · rename_i m
        split at e
        · rename_i c hm
          split at e
          · rename_i hc
            cases e
            cases hv with
            | @ref a _ ha =>
              have hge : ι.length ≤ m := by
                rw [D.low] at hl
                have : ¬ m < G.length := fun z => hl (decide_eq_true z)
                rw [hr.len]; omega
              have na : a ∉ ι := fun hin => by
                obtain ⟨j, hj⟩ := List.mem_iff_getElem?.mp hin
                have hj' := pre_get f.pre hj
                have hjl := (List.getElem?_eq_some_iff.mp hj).1
                have : j = m := (List.getElem?_inj (List.getElem?_eq_some_iff.mp hj').1 hr'.nd).mp (by rw [hj', ha])
                omega
              have cok := (hr'.cell m c a hm ha).down pd (by rw [hr.len]; exact hc)
              refine ⟨ι ++ [a], ⟨List.prefix_append _ _, fun n b hn eb => ?_, f.ext⟩, base.push na (cok.up a), .ref ?_⟩
              · rw [List.getElem?_append_right hn] at eb
                have h0 : n - ι.length = 0 := by
                  cases q : n - ι.length with
                  | zero => rfl
                  | succ k => rw [q] at eb; simp at eb
                rw [h0] at eb
                simp at eb
                subst eb
                exact f.fresh m a hge ha
              · rw [← hr.len]; simp
          · cases e
            exact ⟨ι', f, hr', hv⟩
        · cases e
      · cases e
        exact ⟨ι', f, hr', hv⟩
  · cases e
    exact ⟨ι', f, hr', hv⟩
end
theorem gc_kind {G G1 : Hpp} {v : D} : ∃ r, gc G v G1 = r ∧ (r = .bad ∨ ∃ v2 G2, r = .ok v2 G2) := by
  refine ⟨_, rfl, ?_⟩
  unfold gc
  split
  · split
    · exact .inr ⟨_, _, rfl⟩
    · split
      · split
        · split
          · exact .inr ⟨_, _, rfl⟩
          · exact .inr ⟨_, _, rfl⟩
        · exact .inl rfl
      · exact .inr ⟨_, _, rfl⟩
  · exact .inr ⟨_, _, rfl⟩
/-- no exceptions -/
def XC0 : XCT := fun _ _ _ _ _ _ => False

/-! ### a def of the text -/
structure FD where
  nm : Str
  st : Stmt
  d : FnDef
  N : List Str
  ps : List Str
def scB (N P : List Str) (sc : Scope) : Bool :=
  decide (sc.kind = .function) && !sc.isCoroutine && !sc.isGenerator && decide N.Nodup && decide (N.take P.length = P) && (P.all fun x => decide (sc.names.lookup x = some .local) || decide (sc.names.lookup x = some .cell)) && (sc.names.all fun y => decide (y.2 ≠ .free))
theorem sc_of {N P : List Str} {sc : Scope} (h : scB N P sc = true) : FnScope N P sc := by
  unfold scB at h
  simp only [Bool.and_eq_true, decide_eq_true_eq, Bool.not_eq_true', List.all_eq_true, Bool.or_eq_true] at h
  obtain ⟨⟨⟨⟨⟨⟨h1, h2⟩, h3⟩, h4⟩, h5⟩, h6⟩, h7⟩ := h
  exact ⟨h1, h2, h3, h4, h5, h6, h7⟩
def FD.cc (f : FD) (shp : List Sh) (gl bl : List Str) : CC := ⟨f.N, defScope f.st, fun _ => true, shp, gl, bl⟩
def FD.chk (f : FD) (shp : List Sh) (gl bl : List Str) : Bool :=
  scB f.N f.ps (defScope f.st) && decide (f.d.np = f.ps.length) && decide (f.d.ns = f.N.length) && decide (f.ps.length ≤ f.N.length) && chkSs f.d.body (f.cc shp gl bl) (defBody f.st)
/-- it stands behind the top -/
def FD.At (K : PySem.W.Frag) (mg : Str → Option Value) (f : FD) : Prop := ∃ (fp : Addr) (fd : FuncData), Fun K f.nm f.nm f.st fp fd ∧ mg f.nm = some (.ref fp)
/-- how a call of this shape binds -/
def Sh.B (f : FD) (sh : Sh) : Prop := sh.dd = [] ∧ sh.n + sh.ks.length = f.ps.length ∧ ∀ (kV doc pm : Value) (an : Option Addr) (cdv ct : Value) (us ws : List Value), us.length = sh.n → ws.length = sh.ks.length →
  bindArgs (PySem.W.fnOf f.nm f.nm (defArgs f.st) (defBody f.st) (defScope f.st) .none kV doc pm an cdv ct) ⟨us, sh.ks.zip ws⟩ = pure (f.ps.zip (us ++ ws))
section
variable {P : Program} {w : World} {K : PySem.W.Frag} {mg : Str → Option Value} {base : Heap} {T : Tab} {Γ : Str → Option D} {shp : List Sh} {gl bl : List Str}
theorem fn_ok {f : FD} (hT : T f.nm = some f.d) (hc : f.chk shp gl bl = true) {fp : Addr} {fd : FuncData} (F : Fun K f.nm f.nm f.st fp fd) (hgl : GlOk K mg Γ gl) (hbl : ∀ b ∈ bl, mg b = none) {d : Nat} (ih : FnsOk P w K mg base XC0 (callF T Γ d) d shp) :
    FnOk P w K mg base CX0 (d + 1) fp fd f.ps (spL P w K XC0 (callF T Γ (d + 1)) f.nm f.ps.length) := by
  unfold FD.chk at hc
  simp only [Bool.and_eq_true, decide_eq_true_eq] at hc
  obtain ⟨⟨⟨⟨h1, h2⟩, h3⟩, h4⟩, h5⟩ := hc
  have S := sc_of h1
  refine F.ok S (fun vs H Q E h => ?_) (fun cdv A outer s H vs Q E hr h => ?_)
  · obtain ⟨_, _, _, _, _, hl, _⟩ := h
    exact hl
  · obtain ⟨ι, G, ds, hR, rv, hl, hp⟩ := h
    refine ⟨tS _ XC0 E (exSs (callF T Γ d) Γ f.d.body), okSs f.d.body (c := f.cc shp gl bl) ⟨rfl, S.kind, rfl, S.nd, rfl, fun _ _ => rfl, ⟨d, hr, ih⟩, hgl, hbl⟩ PassesOwn.never h5, ?_⟩
    have hdl : ds.length = f.d.np := by rw [← rv.length, hl, h2]
    refine ⟨ι, ds.map some ++ List.replicate (f.d.ns - f.d.np) none, G, hR, ⟨?_, fun i e he => ?_⟩, ?_⟩
    · unfold L2.start
      rw [List.length_append, List.length_append, List.length_map, List.length_map, List.length_replicate, List.length_replicate, rv.length, hdl, h3]
    · have hi : i < ds.length := by
        by_cases hi : i < ds.length
        · exact hi
        · rw [List.getElem?_append_right (by rw [List.length_map]; omega), List.getElem?_replicate] at he
          split at he <;> cases he
      rw [List.getElem?_append_left (by rw [List.length_map]; exact hi), List.getElem?_map] at he
      cases e1 : ds[i]? with
      | none => rw [e1] at he; cases he
      | some d1 =>
        rw [e1] at he
        cases he
        obtain ⟨v, ev, r⟩ := rv.get e1
        refine ⟨v, ?_, r⟩
        unfold L2.start
        rw [List.getElem?_append_left (by rw [List.length_map, rv.length]; exact hi), List.getElem?_map, ev]
        rfl
    · simp only [callF, hT] at hp
      rw [if_pos hdl] at hp
      cases e : exSs (callF T Γ d) Γ f.d.body (ds.map some ++ List.replicate (f.d.ns - f.d.np) none) G with
      | nx ρ1 G1 =>
        rw [e] at hp
        dsimp only at hp
        intro ι1 H1 σ1 f1 hr1 er1
        obtain ⟨r, eg, hk⟩ := gc_kind (G := G) (G1 := G1) (v := .non)
        rw [eg] at hp
        rcases hk with rfl | ⟨v2, G2, rfl⟩
        · exact hp.elim
        · obtain ⟨ι2, f2, hr2, rv2⟩ := gc_ok hR hr1 f1 (x := .non) .non eg
          exact hp ι2 H1 .non f2 hr2 rv2
      | rt v G1 =>
        rw [e] at hp
        dsimp only at hp
        intro ι1 H1 x f1 hr1 rx
        obtain ⟨r, eg, hk⟩ := gc_kind (G := G) (G1 := G1) (v := v)
        rw [eg] at hp
        rcases hk with rfl | ⟨v2, G2, rfl⟩
        · exact hp.elim
        · obtain ⟨ι2, f2, hr2, rv2⟩ := gc_ok hR hr1 f1 rx eg
          exact hp ι2 H1 x f2 hr2 rv2
      | ex cl v ρ1 G1 => exact fun _ _ _ _ _ _ z => z.elim
      | bk ρ1 G1 => rw [e] at hp; exact hp.elim
      | ct ρ1 G1 => rw [e] at hp; exact hp.elim
      | bad => rw [e] at hp; exact hp.elim
/-- all defs of the program -/
structure AllOk (K : PySem.W.Frag) (mg : Str → Option Value) (T : Tab) (Γ : Str → Option D) (L : List FD) (shp : List Sh) (gl bl : List Str) : Prop where
  tab : ∀ f ∈ L, T f.nm = some f.d
  chk : ∀ f ∈ L, f.chk shp gl bl = true
  at_ : ∀ f ∈ L, f.At K mg
  sh : ∀ sh ∈ shp, ∃ f ∈ L, f.nm = sh.f ∧ sh.B f
  gl : GlOk K mg Γ gl
  bl : ∀ b ∈ bl, mg b = none
theorem AllOk.fns {L : List FD} (a : AllOk K mg T Γ L shp gl bl) : ∀ d, FnsOk P w K mg base XC0 (callF T Γ d) d shp
  | 0 => fun sh hs => by
    obtain ⟨f, hf, en, hd, hl, hB⟩ := a.sh sh hs
    obtain ⟨fp, fd, F, hm⟩ := a.at_ f hf
    refine ⟨fp, fd, f.ps, ⟨fun vs H Q E h => ?_, fun A outer s H args us vs Q E hr e0 hb hv h => ?_⟩, en ▸ hm, F.kp, ⟨⟨[], [], .nil, fun _ _ => (by rw [hd]; exact .nil), fun s us ws _ h1 h2 => ?_⟩, by rw [hd]; exact hl⟩⟩
    · obtain ⟨_, _, _, _, _, hl, _⟩ := h
      exact hl
    · obtain ⟨_, _, _, _, _, _, hp⟩ := h
      exact hp.elim
    · obtain ⟨oc, od, kV, doc, pm, an, cdv, ct, osl, rfl, lk, hcd⟩ := F.ex
      rw [List.append_nil]
      exact .of_eq (hB kV doc pm an cdv ct us ws h1 h2)
  | d + 1 => fun sh hs => by
    obtain ⟨f, hf, en, hd, hl, hB⟩ := a.sh sh hs
    obtain ⟨fp, fd, F, hm⟩ := a.at_ f hf
    have q := fn_ok (P := P) (w := w) (base := base) (a.tab f hf) (a.chk f hf) F a.gl a.bl (AllOk.fns a d)
    refine ⟨fp, fd, f.ps, en ▸ q, en ▸ hm, F.kp, ⟨⟨[], [], .nil, fun _ _ => (by rw [hd]; exact .nil), fun s us ws _ h1 h2 => ?_⟩, by rw [hd]; exact hl⟩⟩
    obtain ⟨oc, od, kV, doc, pm, an, cdv, ct, osl, rfl, lk, hcd⟩ := F.ex
    rw [List.append_nil]
    exact .of_eq (hB kV doc pm an cdv ct us ws h1 h2)
end
/-! ### the head -/
theorem frl_ints {K : PySem.W.Frag} {ι : List Addr} {H : Hp} : ∀ ns : List Int, RVs K ι H (ns.map V.int) (ns.map D.int)
  | [] => .nil
  | n :: ns => .cons (.int n) (frl_ints ns)
theorem law_sp {P : Program} {w : World} {K : PySem.W.Frag} {T : Tab} {Γ : Str → Option D} {k : Nat} {f : Str} {H : Hp} {a : Addr} {ns : List Int} {G' : Hpp} (hO : Only H) (hS : SqL K H a (ns.map V.int)) (e : callF T Γ k f [.frl (ns.map .int)] [] = .ok (.bl true) G') :
    spL P w K XC0 (callF T Γ k) f 1 [.ref a] H (fun v _ => v = .bl true) fun _ _ _ => False := by
  refine ⟨[], [], [.frl (ns.map .int)], ⟨rfl, List.nodup_nil, fun n c x h => by simp at h⟩, .cons (.frl ?_ (frl_ints ns)) .nil, rfl, ?_⟩
  · rcases hS with (h | h) | h
    · rcases hO a with q | ⟨o, xs, q⟩
      · rw [h] at q; cases q
      · rw [h] at q; cases q
    · exact .inl h
    · exact .inr h
  · rw [e]
    intro ι' H' v _ _ q
    have q : RV K ι' H' v (.bl true) := q
    cases q
    rfl
/-- the promise of the law's own def -/
theorem law_ok {P : Program} {w : World} {K : PySem.W.Frag} {mg : Str → Option Value} {T : Tab} {Γ : Str → Option D} {L : List FD} {shp : List Sh} {gl bl : List Str} {f : FD} {fa : Addr} {k : Nat} (a : AllOk K mg T Γ L shp gl bl) (hf : f ∈ L) {x : Str} (hps : f.ps = [x]) (hmg : mg f.nm = some (.ref fa))
    (hb : ∀ (kV doc pm : Value) (an : Option Addr) (cdv ct : Value) (v : Value), bindArgs (PySem.W.fnOf f.nm f.nm (defArgs f.st) (defBody f.st) (defScope f.st) .none kV doc pm an cdv ct) ⟨[v], []⟩ = pure [(x, v)]) :
    ∃ fd : FuncData, (∀ (s : Shared) (v : Value), BindsTo s fd ⟨[v], []⟩ [(x, v)]) ∧ ∀ base : Heap, K.In base → base.Ns mainGlobals mg → FnOk P w K mg base CX0 (k + 1) fa fd [x] (spL P w K XC0 (callF T Γ (k + 1)) f.nm 1) := by
  obtain ⟨fp, fd, F, hm⟩ := a.at_ f hf
  have e : fp = fa := by
    rw [hm] at hmg
    cases hmg
    rfl
  subst e
  refine ⟨fd, fun s v => ?_, fun base _ _ => ?_⟩
  · obtain ⟨oc, od, kV, doc, pm, an, cdv, ct, osl, rfl, lk, hcd⟩ := F.ex
    exact .of_eq (hb kV doc pm an cdv ct v)
  · have q := fn_ok (P := P) (w := w) (base := base) (a.tab f hf) (a.chk f hf) F a.gl a.bl (a.fns k)
    rw [hps] at q
    exact q
end LK
namespace LK
open PySem PySem.Spec PyProof.Rows L2
theorem all_nil {α : Type} {p : α → Prop} : ∀ x ∈ ([] : List α), p x := fun _ h => nomatch h
theorem all_cons {α : Type} {p : α → Prop} {a : α} {r : List α} (h : p a) (hr : ∀ x ∈ r, p x) : ∀ x ∈ a :: r, p x := fun x hx => by
  rcases List.mem_cons.mp hx with z | z
  · rw [z]; exact h
  · exact hr x z
def tabOf (L : List FD) : Tab := fun x => (L.find? fun f => decide (f.nm = x)).map (·.d)
theorem tab_of : ∀ {L : List FD}, (L.map (·.nm)).Nodup → ∀ f ∈ L, tabOf L f.nm = some f.d
  | [], _, _, h => nomatch h
  | g :: L, nd, f, h => by
    rw [List.map_cons, List.nodup_cons] at nd
    unfold tabOf
    rcases List.mem_cons.mp h with z | z
    · subst z
      simp
    · have ne : ¬ g.nm = f.nm := fun e => nd.1 (e ▸ List.mem_map.mpr ⟨f, z, rfl⟩)
      rw [List.find?_cons]
      simp only [ne, decide_false]
      exact tab_of nd.2 f z
theorem at_mk {K : PySem.W.Frag} {h : Heap} {mg : Str → Option Value} (KX : K.In h) (G : h.Ns mainGlobals mg) {nm : Str} {st : Stmt} {d : FnDef} {N ps : List Str} {fp : Addr} {oc : Value} {od an : Option Addr} {osl : Array (Option Value)} {kV doc pm cdv ct : Value}
    (a : PySem.W.nsIn K mainGlobals nm = some (some (.ref fp))) (l : K.lookup fp = some ⟨oc, od, .func (PySem.W.fnOf nm nm (defArgs st) (defBody st) (defScope st) .none kV doc pm an cdv ct), osl⟩)
    (c : PySem.W.codeIn K cdv nm = true) (k : PySem.W.keepIn K (.ref fp) = true) : FD.At K mg ⟨nm, st, d, N, ps⟩ :=
  ⟨fp, _, fun_mk l c k, PySem.W.mg_of KX G a⟩
theorem gl_mk {K : PySem.W.Frag} {h : Heap} {mg : Str → Option Value} {Γ : Str → Option D} (KX : K.In h) (G : h.Ns mainGlobals mg) {nm : Str} {i : Int} {t : Tok} (e : Γ nm = some (.int i)) (a : PySem.W.nsIn K mainGlobals nm = some (some (.int i t))) :
    ∃ (d : D) (u : Value) (v : V), Γ nm = some d ∧ mg nm = some u ∧ L2.RelV v u ∧ ∀ ι H, RV K ι H v d :=
  ⟨.int i, .int i t, .int i, e, PySem.W.mg_of KX G a, ⟨t, rfl⟩, fun _ _ => .int i⟩
end LK

set_option Elab.async false
set_option linter.all false
set_option autoImplicit false
set_option maxRecDepth 100000
set_option maxHeartbeats 1000000
/-! LkWp: what an evaluation comes to; rules for loops, comprehensions, calls. -/
namespace LK
open PySem

def Res.wp {α : Type} (r : Res α) (Q : α → Hpp → Prop) : Prop := match r with
  | .ok a G => Q a G
  | _ => False
def Fl.wp (r : Fl) (nx bk ct : Env → Hpp → Prop) (rt : D → Hpp → Prop) : Prop := match r with
  | .nx ρ G => nx ρ G
  | .bk ρ G => bk ρ G
  | .ct ρ G => ct ρ G
  | .rt d G => rt d G
  | _ => False
def Bif (x : R) (A B : Prop) : Prop := match x with
  | .val (.bl t) => if t = true then A else B
  | _ => False
section
variable {α β : Type} {Q Q' : α → Hpp → Prop} {a : α} {G : Hpp} {r : Res α}
@[simp] theorem wp_ok : (Res.ok a G).wp Q = Q a G := rfl
@[simp] theorem wp_bad : (Res.bad : Res α).wp Q = False := rfl
@[simp] theorem wp_exc {c : Str} {d : D} : (Res.ex c d G : Res α).wp Q = False := rfl
@[simp] theorem wp_bind {f : α → Hpp → Res β} {Q : β → Hpp → Prop} : (r.bind f).wp Q = r.wp fun a G => (f a G).wp Q := by cases r <;> rfl
@[simp] theorem wp_okV {d : D} {Q : R → Hpp → Prop} : (okV d G).wp Q = Q (.val d) G := rfl
theorem wp_imp (h : r.wp Q) (q : ∀ a G, Q a G → Q' a G) : r.wp Q' := by
  cases r with
  | ok a G => exact q a G h
  | ex _ _ _ => exact h
  | bad => exact h
theorem wp_eq (h : r.wp Q) : ∃ a G, r = .ok a G ∧ Q a G := by
  cases r with
  | ok a G => exact ⟨a, G, rfl, h⟩
  | ex _ _ _ => exact h.elim
  | bad => exact h.elim
theorem eq_wp {b : α} {G' : Hpp} (h : r = .ok b G') : r.wp Q = Q b G' := by rw [h]; rfl
@[simp] theorem wp_ite {p : Prop} [Decidable p] {r q : Res α} : (if p then r else q).wp Q = if p then r.wp Q else q.wp Q := by split <;> rfl
theorem wp_guard {p : Prop} [Decidable p] {r : Res α} : (if p then r else .bad).wp Q = (p ∧ r.wp Q) := by
  split <;> simp [*]
@[simp] theorem wp_noEx : (noEx r).wp Q = r.wp Q := by cases r <;> rfl
@[simp] theorem bif_val {t : Bool} {A B : Prop} : Bif (.val (.bl t)) A B = if t = true then A else B := rfl
@[simp] theorem wp_optB {o : Option Bool} {Q : R → Hpp → Prop} : (optB o G).wp Q = match o with
  | some b => Q (.val (.bl b)) G
  | none => False := by cases o <;> rfl
end
section
variable {nx bk ct : Env → Hpp → Prop} {rt : D → Hpp → Prop} {ρ : Env} {G : Hpp}
@[simp] theorem f_nx : (Fl.nx ρ G).wp nx bk ct rt = nx ρ G := rfl
@[simp] theorem f_bk : (Fl.bk ρ G).wp nx bk ct rt = bk ρ G := rfl
@[simp] theorem f_ct : (Fl.ct ρ G).wp nx bk ct rt = ct ρ G := rfl
@[simp] theorem f_rt {d : D} : (Fl.rt d G).wp nx bk ct rt = rt d G := rfl
@[simp] theorem f_bad : Fl.bad.wp nx bk ct rt = False := rfl
@[simp] theorem f_res {α : Type} {r : Res α} {f : α → Hpp → Fl} : (resF r ρ f).wp nx bk ct rt = r.wp fun a G => (f a G).wp nx bk ct rt := by cases r <;> rfl
@[simp] theorem f_ite {p : Prop} [Decidable p] {r q : Fl} : (if p then r else q).wp nx bk ct rt = if p then r.wp nx bk ct rt else q.wp nx bk ct rt := by split <;> rfl
theorem f_imp {r : Fl} {nx' bk' ct' : Env → Hpp → Prop} {rt' : D → Hpp → Prop} (h : r.wp nx bk ct rt) (h1 : ∀ ρ G, nx ρ G → nx' ρ G) (h2 : ∀ ρ G, bk ρ G → bk' ρ G) (h3 : ∀ ρ G, ct ρ G → ct' ρ G) (h4 : ∀ d G, rt d G → rt' d G) : r.wp nx' bk' ct' rt' := by
  cases r with
  | nx ρ G => exact h1 _ _ h
  | bk ρ G => exact h2 _ _ h
  | ct ρ G => exact h3 _ _ h
  | rt d G => exact h4 _ _ h
  | ex _ _ _ _ => exact h
  | bad => exact h
end
section
variable {C : CallF} {Γ : Str → Option D} {nx bk ct : Env → Hpp → Prop} {rt : D → Hpp → Prop} {ρ : Env} {G : Hpp} {Q : R → Hpp → Prop}
@[simp] theorem f_nil : (exSs C Γ .nil ρ G).wp nx bk ct rt = nx ρ G := rfl
@[simp] theorem f_cons {s : S} {r : Ss} : (exSs C Γ (.cons s r) ρ G).wp nx bk ct rt = (exS C Γ s ρ G).wp (fun ρ G => (exSs C Γ r ρ G).wp nx bk ct rt) bk ct rt := by
  rw [exSs]
  cases exS C Γ s ρ G <;> rfl
@[simp] theorem f_if {c : E} {a b : Ss} : (exS C Γ (.ite c a b) ρ G).wp nx bk ct rt = (ev C Γ c ρ G).wp fun x G1 => Bif x ((exSs C Γ a ρ G1).wp nx bk ct rt) ((exSs C Γ b ρ G1).wp nx bk ct rt) := by
  rw [exS, f_res]
  congr 1
  funext x G1
  unfold Bif
  cases x with
  | val d => cases d with
    | bl t => cases t <;> rfl
    | _ => rfl
  | _ => rfl
@[simp] theorem w_and' {a b : E} : (ev C Γ (.and a b) ρ G).wp Q = (ev C Γ a ρ G).wp fun x G1 => Bif x ((ev C Γ b ρ G1).wp Q) (Q (.val (.bl false)) G1) := by
  rw [ev, wp_bind]
  congr 1
  funext x G1
  unfold Bif
  cases x with
  | val d => cases d with
    | bl t => cases t <;> rfl
    | _ => rfl
  | _ => rfl
@[simp] theorem w_or' {a b : E} : (ev C Γ (.or a b) ρ G).wp Q = (ev C Γ a ρ G).wp fun x G1 => Bif x (Q (.val (.bl true)) G1) ((ev C Γ b ρ G1).wp Q) := by
  rw [ev, wp_bind]
  congr 1
  funext x G1
  unfold Bif
  cases x with
  | val d => cases d with
    | bl t => cases t <;> rfl
    | _ => rfl
  | _ => rfl
@[simp] theorem w_not' {a : E} : (ev C Γ (.not a) ρ G).wp Q = (ev C Γ a ρ G).wp fun x G1 => Bif x (Q (.val (.bl false)) G1) (Q (.val (.bl true)) G1) := by
  rw [ev, wp_bind]
  congr 1
  funext x G1
  unfold Bif
  cases x with
  | val d => cases d with
    | bl t => cases t <;> rfl
    | _ => rfl
  | _ => rfl
@[simp] theorem w_ite' {c a b : E} : (ev C Γ (.ite c a b) ρ G).wp Q = (ev C Γ c ρ G).wp fun x G1 => Bif x ((ev C Γ a ρ G1).wp Q) ((ev C Γ b ρ G1).wp Q) := by
  rw [ev, wp_bind]
  congr 1
  funext x G1
  unfold Bif
  cases x with
  | val d => cases d with
    | bl t => cases t <;> rfl
    | _ => rfl
  | _ => rfl
@[simp] theorem w_if' {e : E} {r : Es} {Q : Bool → Hpp → Prop} : (evIf C Γ (.cons e r) ρ G).wp Q = (ev C Γ e ρ G).wp fun x G1 => Bif x ((evIf C Γ r ρ G1).wp Q) (Q false G1) := by
  rw [evIf, wp_bind]
  congr 1
  funext x G1
  unfold Bif
  cases x with
  | val d => cases d with
    | bl t => cases t <;> rfl
    | _ => rfl
  | _ => rfl
@[simp] theorem w_if0 {Q : Bool → Hpp → Prop} : (evIf C Γ .nil ρ G).wp Q = Q true G := rfl
@[simp] theorem w_comp {e : E} {tg : Tg} {i : I} {ifs : Es} : (ev C Γ (.comp e tg i ifs) ρ G).wp Q = (evI C Γ i ρ G).wp fun w G1 => (compF (compV tg (fun ρ G => evIf C Γ ifs ρ G) (fun ρ G => ev C Γ e ρ G) ρ) w (w.size G1 + 1) 0 [] G1).wp fun ds G2 => Q (.newL ds) G2 := by
  rw [ev, wp_bind]
  simp only [wp_bind, wp_ok]
@[simp] theorem w_dcomp {t : Bool} {k e : E} {tg : Tg} {i : I} {ifs : Es} : (ev C Γ (.dcomp t k e tg i ifs) ρ G).wp Q = (evI C Γ i ρ G).wp fun w G1 => (dcompF (dcompV tg (fun ρ G => evIf C Γ ifs ρ G) (fun ρ G => ev C Γ k ρ G) (fun ρ G => ev C Γ e ρ G) ρ) w (w.size G1 + 1) 0 [] G1).wp fun ds G2 => Q (.newD false ds) G2 := by
  rw [ev, wp_bind]
  simp only [wp_bind, wp_ok]
@[simp] theorem f_for {tg : Tg} {i : I} {b : Ss} : (exS C Γ (.for_ tg i b) ρ G).wp nx bk ct rt = (evI C Γ i ρ G).wp fun w G1 => (loopF (fun d ρ1 G2 => match bindTg tg d ρ1 with
    | some ρ2 => exSs C Γ b ρ2 G2
    | none => .bad) w (w.size G1 + 1) 0 ρ G1).wp nx bk ct rt := by
  rw [exS, f_res]
  try rfl
@[simp] theorem w_int {i : Int} : (ev C Γ (.int i) ρ G).wp Q = Q (.val (.int i)) G := rfl
@[simp] theorem w_bl {i : Bool} : (ev C Γ (.bl i) ρ G).wp Q = Q (.val (.bl i)) G := rfl
@[simp] theorem w_non : (ev C Γ .non ρ G).wp Q = Q (.val .non) G := rfl
@[simp] theorem w_str {i : Str} : (ev C Γ (.str i) ρ G).wp Q = Q (.val (.str i)) G := rfl
@[simp] theorem w_var {i : Nat} : (ev C Γ (.var i) ρ G).wp Q = match ρ[i]? with
    | some (some d) => Q (.val d) G
    | _ => False := by
  rw [ev]
  cases ρ[i]? with
  | none => rfl
  | some o => cases o <;> rfl
theorem w_glob {x : Str} {d : D} (h : Γ x = some d) : (ev C Γ (.glob x) ρ G).wp Q = Q (.val d) G := by
  rw [ev, h]
  rfl
@[simp] theorem w_tup {es : Es} : (ev C Γ (.tup es) ρ G).wp Q = (evs C Γ es ρ G).wp fun ds G1 => Q (.val (.tup ds)) G1 := by rw [ev, wp_bind]; rfl
@[simp] theorem w_lst {es : Es} : (ev C Γ (.lst es) ρ G).wp Q = (evs C Γ es ρ G).wp fun ds G1 => Q (.newL ds) G1 := by rw [ev, wp_bind]; rfl
@[simp] theorem w_dnew {t : Bool} : (ev C Γ (.dnew t) ρ G).wp Q = Q (.newD t []) G := rfl
@[simp] theorem w_bin {op : Bop} {a b : E} : (ev C Γ (.bin op a b) ρ G).wp Q = (ev C Γ a ρ G).wp fun x G1 => (ev C Γ b ρ G1).wp fun y G2 => (binR op x y G2).wp Q := by rw [ev]; simp only [wp_bind]
@[simp] theorem w_neg {a : E} : (ev C Γ (.neg a) ρ G).wp Q = (ev C Γ a ρ G).wp fun x G1 => match x with
    | .val (.int i) => Q (.val (.int (-i))) G1
    | _ => False := by
  rw [ev, wp_bind]
  congr 1
  funext x G1
  cases x with
  | val d => cases d <;> rfl
  | _ => rfl
@[simp] theorem w_cmp {op : Cop} {a b : E} : (ev C Γ (.cmp op a b) ρ G).wp Q = (ev C Γ a ρ G).wp fun x G1 => (ev C Γ b ρ G1).wp fun y G2 => match cmpR op x y G2 with
    | some b => Q (.val (.bl b)) G2
    | none => False := by rw [ev]; simp only [wp_bind, wp_optB]
@[simp] theorem w_idx {a i : E} : (ev C Γ (.idx a i) ρ G).wp Q = (ev C Γ a ρ G).wp fun x G1 => (ev C Γ i ρ G1).wp fun y G2 => (idxR x y G2).wp Q := by rw [ev]; simp only [wp_bind]
@[simp] theorem w_slc {a lo hi : E} : (ev C Γ (.slc a lo hi) ρ G).wp Q = (ev C Γ a ρ G).wp fun x G1 => (partF lo (fun G2 => ev C Γ lo ρ G2) G1).wp fun l G2 => (partF hi (fun G3 => ev C Γ hi ρ G3) G2).wp fun h G3 => (cutR x l h G3).wp Q := by rw [ev]; simp only [wp_bind]
@[simp] theorem p_non {f : Hpp → Res R} {Q : Option Int → Hpp → Prop} : (partF .non f G).wp Q = Q none G := rfl
theorem p_ex {e : E} {f : Hpp → Res R} {Q : Option Int → Hpp → Prop} (h : (match e with
    | .non => true
    | _ => false) = false) : (partF e f G).wp Q = (f G).wp fun r G1 => match r with
    | .val (.int i) => Q (some i) G1
    | _ => False := by
  have q : partF e f G = (f G).bind fun r G1 => match r with
    | .val (.int i) => .ok (some i) G1
    | _ => .bad := by cases e <;> first | rfl | cases h
  rw [q, wp_bind]
  congr 1
  funext x G1
  cases x with
  | val d => cases d <;> rfl
  | _ => rfl
@[simp] theorem p_var {i : Nat} {f : Hpp → Res R} {Q : Option Int → Hpp → Prop} : (partF (.var i) f G).wp Q = (f G).wp fun r G1 => match r with
    | .val (.int i) => Q (some i) G1
    | _ => False := p_ex rfl
@[simp] theorem p_bin {o : Bop} {a b : E} {f : Hpp → Res R} {Q : Option Int → Hpp → Prop} : (partF (.bin o a b) f G).wp Q = (f G).wp fun r G1 => match r with
    | .val (.int i) => Q (some i) G1
    | _ => False := p_ex rfl
@[simp] theorem p_int {i : Int} {f : Hpp → Res R} {Q : Option Int → Hpp → Prop} : (partF (.int i) f G).wp Q = (f G).wp fun r G1 => match r with
    | .val (.int i) => Q (some i) G1
    | _ => False := p_ex rfl
@[simp] theorem w_call {f : Str} {es ks : Es} {dd : List D} : (ev C Γ (.call f es ks dd) ρ G).wp Q = (evs C Γ es ρ G).wp fun ds G1 => (evs C Γ ks ρ G1).wp fun zs G2 => (C f (ds ++ zs ++ dd) G2).wp fun d G3 => Q (.val d) G3 := by rw [ev]; simp only [wp_bind]; rfl
@[simp] theorem w_len {a : E} : (ev C Γ (.len a) ρ G).wp Q = (ev C Γ a ρ G).wp fun x G1 => (lenR x G1).wp Q := by rw [ev]; simp only [wp_bind]
@[simp] theorem w_abs {a : E} : (ev C Γ (.abs a) ρ G).wp Q = (ev C Γ a ρ G).wp fun x G1 => match x with
    | .val (.int i) => Q (.val (.int (if i < 0 then -i else i))) G1
    | _ => False := by
  rw [ev, wp_bind]
  congr 1
  funext x G1
  cases x with
  | val d => cases d <;> rfl
  | _ => rfl
@[simp] theorem w_int1 {a : E} : (ev C Γ (.int1 a) ρ G).wp Q = (ev C Γ a ρ G).wp fun x G1 => match x with
    | .val (.int i) => Q (.val (.int i)) G1
    | .val (.bl b) => Q (.val (.int (if b then 1 else 0))) G1
    | _ => False := by
  rw [ev, wp_bind]
  congr 1
  funext x G1
  cases x with
  | val d => cases d <;> rfl
  | _ => rfl
@[simp] theorem w_min2 {a b : E} : (ev C Γ (.min2 a b) ρ G).wp Q = (ev C Γ a ρ G).wp fun x G1 => (ev C Γ b ρ G1).wp fun y G2 => match x, y with
    | .val (.int i), .val (.int j) => Q (.val (.int (if j < i then j else i))) G2
    | _, _ => False := by
  rw [ev, wp_bind]
  congr 1
  funext x G1
  rw [wp_bind]
  congr 1
  funext y G2
  cases x with
  | val d => cases d <;> first
    | rfl
    | (cases y with
      | val e => cases e <;> rfl
      | _ => rfl)
  | _ => rfl
@[simp] theorem w_max2 {a b : E} : (ev C Γ (.max2 a b) ρ G).wp Q = (ev C Γ a ρ G).wp fun x G1 => (ev C Γ b ρ G1).wp fun y G2 => match x, y with
    | .val (.int i), .val (.int j) => Q (.val (.int (if j > i then j else i))) G2
    | _, _ => False := by
  rw [ev, wp_bind]
  congr 1
  funext x G1
  rw [wp_bind]
  congr 1
  funext y G2
  cases x with
  | val d => cases d <;> first
    | rfl
    | (cases y with
      | val e => cases e <;> rfl
      | _ => rfl)
  | _ => rfl
@[simp] theorem w_isi {a : E} {t : Ty} : (ev C Γ (.isi a t) ρ G).wp Q = (ev C Γ a ρ G).wp fun x G1 => match isiR x t G1 with
    | some b => Q (.val (.bl b)) G1
    | none => False := by rw [ev]; simp only [wp_bind, wp_optB]
@[simp] theorem w_seq {a : E} {b : Sb} : (ev C Γ (.seq b a) ρ G).wp Q = (ev C Γ a ρ G).wp fun x G1 => (seqR b x G1).wp Q := by rw [ev]; simp only [wp_bind]
@[simp] theorem w_m0 {m : M0} {o : E} : (ev C Γ (.meth0 m o) ρ G).wp Q = (ev C Γ o ρ G).wp fun x G1 => (lstM x G1).isSome = true ∧ (meth0R m x G1).wp Q := by
  rw [ev, wp_bind]
  congr 1
  funext x G1
  rw [wp_guard]
@[simp] theorem w_m1 {m : M1} {o a : E} : (ev C Γ (.meth1 m o a) ρ G).wp Q = (ev C Γ o ρ G).wp fun x G1 => (lstM x G1).isSome = true ∧ (ev C Γ a ρ G1).wp fun y G2 => (meth1R m x y G2).wp Q := by
  rw [ev, wp_bind]
  congr 1
  funext x G1
  rw [wp_guard, wp_bind]
@[simp] theorem ws_nil {Q : List D → Hpp → Prop} : (evs C Γ .nil ρ G).wp Q = Q [] G := rfl
@[simp] theorem ws_cons {e : E} {r : Es} {Q : List D → Hpp → Prop} : (evs C Γ (.cons e r) ρ G).wp Q = (ev C Γ e ρ G).wp fun x G1 => (toD x G1).wp fun d G1 => (evs C Γ r ρ G1).wp fun ds G2 => Q (d :: ds) G2 := by rw [evs]; simp only [wp_bind]; rfl
@[simp] theorem wi_ex {e : E} {Q : Walk → Hpp → Prop} : (evI C Γ (.ex e) ρ G).wp Q = (ev C Γ e ρ G).wp fun x G1 => (toWalk x G1).wp Q := by rw [evI, wp_bind]
@[simp] theorem wi_rng1 {e : E} {Q : Walk → Hpp → Prop} : (evI C Γ (.rng1 e) ρ G).wp Q = (ev C Γ e ρ G).wp fun x G1 => match x with
    | .val (.int j) => (-(LIM : Int) ≤ j ∧ j ≤ LIM) ∧ Q (.rng 0 j.toNat) G1
    | _ => False := by
  rw [evI, wp_bind]
  congr 1
  funext x G1
  cases x with
  | val d => cases d <;> first
    | rfl
    | exact wp_guard
  | _ => rfl
@[simp] theorem wi_enum {e : E} {Q : Walk → Hpp → Prop} : (evI C Γ (.enum e) ρ G).wp Q = (ev C Γ e ρ G).wp fun x G1 => (toWalk x G1).wp fun w G2 => Q (.enum w) G2 := by rw [evI]; simp only [wp_bind]; rfl
@[simp] theorem wi_zip {a b : E} {Q : Walk → Hpp → Prop} : (evI C Γ (.zip a b) ρ G).wp Q = (ev C Γ a ρ G).wp fun x G1 => (ev C Γ b ρ G1).wp fun y G2 => x.isTup = y.isTup ∧ (toWalk x G2).wp fun w G3 => (toWalk y G3).wp fun v G4 => Q (.zip w v) G4 := by
  rw [evI]
  simp only [wp_bind]
  congr 1
  funext x G1
  congr 1
  funext y G2
  rw [wp_guard]
  simp only [wp_bind]
  rfl
@[simp] theorem f_set {i : Nat} {e : E} : (exS C Γ (.set i e) ρ G).wp nx bk ct rt = (ev C Γ e ρ G).wp fun x G1 => (toD x G1).wp fun d G1 => nx (ρ.set i (some d)) G1 := by rw [exS, f_res, wp_bind]; rfl
@[simp] theorem f_setT {js : List Nat} {e : E} : (exS C Γ (.setT js e) ρ G).wp nx bk ct rt = (ev C Γ e ρ G).wp fun x G1 => match x with
    | .val (.tup ds) => (match setSlots ρ js ds with
      | some ρ1 => nx ρ1 G1
      | none => False)
    | _ => False := by
  rw [exS, f_res]
  congr 1
  funext x G1
  cases x with
  | val d => cases d <;> first
    | rfl
    | (dsimp only
       cases setSlots ρ js _ <;> rfl)
  | _ => rfl
@[simp] theorem f_setI {o i e : E} : (exS C Γ (.setI o i e) ρ G).wp nx bk ct rt = (ev C Γ e ρ G).wp fun x G1 => (toD x G1).wp fun d G1 => (ev C Γ o ρ G1).wp fun x G2 => (ev C Γ i ρ G2).wp fun y G3 => match setIR x y d G3 with
    | some G4 => nx ρ G4
    | none => False := by
  rw [exS, f_res, wp_bind]
  congr 1
  funext x G1
  congr 1
  funext d G2
  rw [f_res]
  congr 1
  funext x G3
  rw [f_res]
  congr 1
  funext y G4
  cases setIR x y d G4 <;> rfl
@[simp] theorem f_expr {e : E} : (exS C Γ (.expr e) ρ G).wp nx bk ct rt = (ev C Γ e ρ G).wp fun _ G1 => nx ρ G1 := by rw [exS, f_res]; rfl
@[simp] theorem f_ret {e : E} : (exS C Γ (.ret e) ρ G).wp nx bk ct rt = (ev C Γ e ρ G).wp fun x G1 => (toD x G1).wp rt := by rw [exS, f_res, wp_bind]; rfl
@[simp] theorem f_retN : (exS C Γ .retN ρ G).wp nx bk ct rt = rt .non G := rfl
@[simp] theorem f_brk : (exS C Γ .brk ρ G).wp nx bk ct rt = bk ρ G := rfl
@[simp] theorem f_cnt : (exS C Γ .cnt ρ G).wp nx bk ct rt = ct ρ G := rfl
@[simp] theorem f_pass : (exS C Γ .pass ρ G).wp nx bk ct rt = nx ρ G := rfl
/-! ### values -/
@[simp] theorem td_val {d : D} {Q : D → Hpp → Prop} : (toD (.val d) G).wp Q = Q d G := rfl
@[simp] theorem td_newL {ds : List D} {Q : D → Hpp → Prop} : (toD (.newL ds) G).wp Q = Q (.ref G.length) (G ++ [.lst ds]) := rfl
@[simp] theorem td_newD {t : Bool} {ds : List (D × D)} {Q : D → Hpp → Prop} : (toD (.newD t ds) G).wp Q = Q (.ref G.length) (G ++ [.dct t ds]) := rfl
@[simp] theorem b_ii {op : Bop} {i j : Int} : binR op (.val (.int i)) (.val (.int j)) G = binI op i j G := rfl
@[simp] theorem b_add {i j : Int} : (binI .add i j G).wp Q = Q (.val (.int (i + j))) G := rfl
@[simp] theorem b_sub {i j : Int} : (binI .sub i j G).wp Q = Q (.val (.int (i - j))) G := rfl
@[simp] theorem b_mul {i j : Int} : (binI .mul i j G).wp Q = (mulOk i j = true ∧ Q (.val (.int (i * j))) G) := wp_guard
@[simp] theorem b_fdiv {i j : Int} : (binI .fdiv i j G).wp Q = ((j ≠ 0 ∧ j.natAbs < 1073741824) ∧ Q (.val (.int (i.fdiv j))) G) := wp_guard
@[simp] theorem b_mod {i j : Int} : (binI .mod i j G).wp Q = (j ≠ 0 ∧ Q (.val (.int (i.fmod j))) G) := wp_guard
@[simp] theorem b_pow {i j : Int} : (binI .pow i j G).wp Q = ((0 ≤ j ∧ j ≤ 1000 ∧ i.natAbs < 2 ^ 64) ∧ Q (.val (.int (i ^ j.toNat))) G) := wp_guard
@[simp] theorem c_gt {i j : Int} : cmpR .gt (.val (.int i)) (.val (.int j)) G = some (decide (j < i)) := rfl
@[simp] theorem c_lt {i j : Int} : cmpR .lt (.val (.int i)) (.val (.int j)) G = some (decide (i < j)) := rfl
@[simp] theorem c_ge {i j : Int} : cmpR .ge (.val (.int i)) (.val (.int j)) G = some (decide (j ≤ i)) := rfl
@[simp] theorem c_le {i j : Int} : cmpR .le (.val (.int i)) (.val (.int j)) G = some (decide (i ≤ j)) := rfl
@[simp] theorem c_eq {i j : Int} : cmpR .eq (.val (.int i)) (.val (.int j)) G = some (decide (i = j)) := rfl
@[simp] theorem c_ne {i j : Int} : cmpR .ne (.val (.int i)) (.val (.int j)) G = some (!decide (i = j)) := rfl
@[simp] theorem at_0 {α : Type} {x : α} {r : List α} : L2.atI (x :: r) 0 = some x := by
  simp only [L2.atI, L2.ixN, List.length_cons]
  rw [if_pos (by omega), if_pos (by omega)]
  rfl
@[simp] theorem at_1 {α : Type} {x y : α} {r : List α} : L2.atI (x :: y :: r) 1 = some y := by
  simp only [L2.atI, L2.ixN, List.length_cons]
  rw [if_pos (by omega), if_pos (by omega)]
  rfl
theorem at_nat {α : Type} {xs : List α} {j : Nat} : L2.atI xs (j : Int) = xs[j]? := by
  unfold L2.atI L2.ixN
  rw [if_pos (by omega)]
  by_cases h : j < xs.length
  · rw [if_pos (by omega)]; rfl
  · rw [if_neg (by omega), List.getElem?_eq_none (by omega)]; rfl
theorem ix_tup {ds : List D} {i : Int} : (idxR (.val (.tup ds)) (.val (.int i)) G).wp Q = match L2.atI ds i with
    | some d => Q (.val d) G
    | none => False := by
  show (match L2.atI ds i with
    | some d => okV d G
    | none => .bad).wp Q = _
  cases L2.atI ds i <;> rfl
theorem ix_lst {n : Nat} {ds : List D} {i : Int} (h : G[n]? = some (.lst ds)) : (idxR (.val (.ref n)) (.val (.int i)) G).wp Q = match L2.atI ds i with
    | some d => Q (.val d) G
    | none => False := by
  simp only [idxR, h]
  cases L2.atI ds i <;> rfl
theorem st_lst {n m : Nat} {ds : List D} {i : Int} {d : D} (h : G[n]? = some (.lst ds)) (e : L2.ixN ds.length i = some m) : setIR (.val (.ref n)) (.val (.int i)) d G = some (G.set n (.lst (ds.set m d))) := by
  simp only [setIR, h, e]
/-! ### loops -/
/-- the items of a walk -/
def Its (w : Walk) (ds : List D) (G : Hpp) : Prop := (∀ i, w.item i G = match ds[i]? with
  | some d => .yld d
  | none => .stop) ∧ w.size G = ds.length
theorem its_fix {ds : List D} : Its (.fix ds) ds G := ⟨fun i => rfl, rfl⟩
theorem its_cell {n : Nat} {ds : List D} (h : G[n]? = some (.lst ds)) : Its (.cell n) ds G := ⟨fun i => by simp only [Walk.item, h]; try (cases ds[i]? <;> rfl), by simp only [Walk.size, h]⟩
theorem its_rng {lo : Int} {n : Nat} : Its (.rng lo n) ((List.range n).map fun (k : Nat) => .int (lo + k)) G := by
  refine ⟨fun i => ?_, by simp [Walk.size]⟩
  simp only [Walk.item, List.getElem?_map, List.getElem?_range]
  by_cases h : i < n
  · rw [if_pos h, List.getElem?_range h]; rfl
  · rw [if_neg h, List.getElem?_eq_none (by simpa using h)]; rfl
theorem its_enum {w : Walk} {ds : List D} (h : Its w ds G) : Its (.enum w) (ds.zipIdx.map fun p => .tup [.int p.2, p.1]) G := by
  refine ⟨fun i => ?_, by simp [Walk.size, h.2]⟩
  simp only [Walk.item, h.1 i, List.getElem?_map, List.getElem?_zipIdx]
  cases ds[i]? <;> simp
theorem its_zip {w v : Walk} {ds es : List D} (h : Its w ds G) (g : Its v es G) : Its (.zip w v) ((ds.zip es).map fun p => .tup [p.1, p.2]) G := by
  refine ⟨fun i => ?_, by simp [Walk.size, h.2, g.2]⟩
  simp only [Walk.item, h.1 i, g.1 i, List.getElem?_map]
  have e : (ds.zip es)[i]? = (match ds[i]?, es[i]? with
    | some a, some b => some (a, b)
    | _, _ => none) := by
    rw [List.zip, List.getElem?_zipWith]
    cases ds[i]? <;> cases es[i]? <;> rfl
  rw [e]
  cases ds[i]? <;> cases es[i]? <;> rfl
theorem loop_wp {f : D → Env → Hpp → Fl} {w : Walk} {ds : List D} (I : Nat → Env → Hpp → Prop) (hi : ∀ i ρ G, I i ρ G → Its w ds G) (hs : ∀ i d ρ G, ds[i]? = some d → I i ρ G → (f d ρ G).wp (I (i + 1)) nx (I (i + 1)) rt) (he : ∀ ρ G, I ds.length ρ G → nx ρ G) :
    ∀ (n i : Nat) (ρ : Env) (G : Hpp), i ≤ ds.length → ds.length - i < n → I i ρ G → (loopF f w n i ρ G).wp nx bk ct rt
  | 0, _, _, _, _, h, _ => by omega
  | n + 1, i, ρ, G, hl, hn, h => by
    rw [loopF, (hi i ρ G h).1 i]
    cases e : ds[i]? with
    | none =>
      have : i = ds.length := by
        have := List.getElem?_eq_none_iff.mp e
        omega
      subst this
      exact he ρ G h
    | some d =>
      have hlt := (List.getElem?_eq_some_iff.mp e).1
      have q := hs i d ρ G e h
      dsimp only
      cases e2 : f d ρ G with
      | nx ρ1 G1 => rw [e2] at q; exact loop_wp I hi hs he n (i + 1) ρ1 G1 hlt (by omega) q
      | ct ρ1 G1 => rw [e2] at q; exact loop_wp I hi hs he n (i + 1) ρ1 G1 hlt (by omega) q
      | bk ρ1 G1 => rw [e2] at q; exact q
      | rt d G1 => rw [e2] at q; exact q
      | ex _ _ _ _ => rw [e2] at q; exact q
      | bad => rw [e2] at q; exact q
theorem loop_at {f : D → Env → Hpp → Fl} {w : Walk} {ds : List D} (I : Nat → Env → Hpp → Prop) (h0 : I 0 ρ G) (hi : ∀ i ρ G, I i ρ G → Its w ds G) (hs : ∀ i d ρ G, ds[i]? = some d → I i ρ G → (f d ρ G).wp (I (i + 1)) nx (I (i + 1)) rt) (he : ∀ ρ G, I ds.length ρ G → nx ρ G) :
    (loopF f w (w.size G + 1) 0 ρ G).wp nx bk ct rt := loop_wp I hi hs he _ 0 ρ G (Nat.zero_le _) (by rw [(hi 0 ρ G h0).2]; omega) h0
theorem comp_wp {f : D → Hpp → Res (Option D)} {w : Walk} {ds : List D} {Q : List D → Hpp → Prop} (I : Nat → List D → Hpp → Prop) (hi : ∀ i acc G, I i acc G → Its w ds G) (hl : ds.length ≤ LIM) (hs : ∀ i d acc G, ds[i]? = some d → I i acc G → (f d G).wp fun o G1 => match o with
    | some x => I (i + 1) (acc ++ [x]) G1
    | none => I (i + 1) acc G1) (he : ∀ acc G, I ds.length acc G → Q acc G) :
    ∀ (n i : Nat) (acc : List D) (G : Hpp), acc.length ≤ i → i ≤ ds.length → ds.length - i < n → I i acc G → (compF f w n i acc G).wp Q
  | 0, _, _, _, _, _, h, _ => by omega
  | n + 1, i, acc, G, ha, hl', hn, h => by
    rw [compF, (hi i acc G h).1 i]
    cases e : ds[i]? with
    | none =>
      have : i = ds.length := by
        have := List.getElem?_eq_none_iff.mp e
        omega
      subst this
      exact he acc G h
    | some d =>
      have hlt := (List.getElem?_eq_some_iff.mp e).1
      have q := hs i d acc G e h
      dsimp only
      rw [wp_bind]
      refine wp_imp q fun o G1 q1 => ?_
      cases o with
      | some x =>
        dsimp only at q1 ⊢
        rw [if_pos (by omega)]
        exact comp_wp I hi hl hs he n (i + 1) _ G1 (by simp; omega) hlt (by omega) q1
      | none => exact comp_wp I hi hl hs he n (i + 1) _ G1 (by omega) hlt (by omega) q1
theorem comp_at {f : D → Hpp → Res (Option D)} {w : Walk} {ds : List D} {Q : List D → Hpp → Prop} (I : Nat → List D → Hpp → Prop) (h0 : I 0 [] G) (hl : ds.length ≤ LIM) (hi : ∀ i acc G, I i acc G → Its w ds G) (hs : ∀ i d acc G, ds[i]? = some d → I i acc G → (f d G).wp fun o G1 => match o with
    | some x => I (i + 1) (acc ++ [x]) G1
    | none => I (i + 1) acc G1) (he : ∀ acc G, I ds.length acc G → Q acc G) : (compF f w (w.size G + 1) 0 [] G).wp Q :=
  comp_wp I hi hl hs he _ 0 [] G (Nat.zero_le _) (Nat.zero_le _) (by rw [(hi 0 [] G h0).2]; omega) h0
/-- a comprehension that changes no cell -/
theorem comp_pure {f : D → Hpp → Res (Option D)} {w : Walk} {ds : List D} {Q : List D → Hpp → Prop} (o : D → Option D) (hi : Its w ds G) (hl : ds.length ≤ LIM) (hs : ∀ d ∈ ds, f d G = .ok (o d) G) (he : Q (ds.filterMap o) G) : (compF f w (w.size G + 1) 0 [] G).wp Q := by
  refine comp_at (fun i acc G' => G' = G ∧ acc = (ds.take i).filterMap o) ⟨rfl, by simp⟩ hl (fun i acc G' h => h.1 ▸ hi) (fun i d acc G' e h => ?_) fun acc G' h => ?_
  · obtain ⟨rfl, rfl⟩ := h
    rw [hs d (List.mem_of_getElem? e)]
    have e2 : ds.take (i + 1) = ds.take i ++ [d] := by rw [List.take_add_one, e]; rfl
    rw [wp_ok, e2, List.filterMap_append]
    cases e3 : o d with
    | none => simp [List.filterMap_cons, e3]
    | some x => simp [List.filterMap_cons, e3]
  · obtain ⟨rfl, rfl⟩ := h
    rw [List.take_length]
    exact he
end
/-! ### calls -/
theorem low_int {n : Nat} {i : Int} : D.low n (.int i) = true := rfl
theorem gc_id {G : Hpp} {v : D} (h : v.low G.length = true) {ex : List Cell} : gc G v (G ++ ex) = .ok v G := by
  unfold gc
  have : oldOk G (G ++ ex) = true := by
    unfold oldOk
    rw [List.all_eq_true]
    intro i hi
    rw [List.mem_range] at hi
    rw [List.getElem?_append_left hi]
    simp
  rw [if_pos ⟨this, by simp⟩, if_pos h, List.take_left]
theorem gc_set {G : Hpp} {v : D} {b : Nat} {c : Cell} (h : v.low G.length = true) (hc : c.low G.length = true) {ex : List Cell} : gc G v (G.set b c ++ ex) = .ok v (G.set b c) := by
  unfold gc
  have : oldOk G (G.set b c ++ ex) = true := by
    unfold oldOk
    rw [List.all_eq_true]
    intro i hi
    rw [List.mem_range] at hi
    rw [List.getElem?_append_left (by rw [List.length_set]; exact hi)]
    by_cases hb : b = i
    · subst hb
      rw [List.getElem?_set_self hi]
      simp [hc]
    · rw [List.getElem?_set_ne hb]
      simp
  rw [if_pos ⟨this, by simp⟩, if_pos h]
  have : G.length = (G.set b c).length := by simp
  rw [this, List.take_left]
theorem call_eq {T : Tab} {Γ : Str → Option D} {f : Str} {fd : FnDef} (hT : T f = some fd) {args : List D} (hl : args.length = fd.np) {G : Hpp} {d : Nat} {Q : D → Hpp → Prop}
    (h : (exSs (callF T Γ d) Γ fd.body (args.map some ++ List.replicate (fd.ns - fd.np) none) G).wp (fun _ G1 => (gc G .non G1).wp Q) (fun _ _ => False) (fun _ _ => False) (fun v G1 => (gc G v G1).wp Q)) :
    (callF T Γ (d + 1) f args G).wp Q := by
  simp only [callF, hT]
  rw [if_pos hl]
  cases e : exSs (callF T Γ d) Γ fd.body (args.map some ++ List.replicate (fd.ns - fd.np) none) G <;> rw [e] at h <;> first | exact h | exact h.elim
end LK

set_option Elab.async false
set_option linter.all false
set_option autoImplicit false
set_option maxRecDepth 100000
set_option maxHeartbeats 2000000
/-! MKit: the laws' own helpers: _law_box, _law_take, _law_pick, _law_same. -/
namespace LK
open PySem
def d__law_box : FnDef :=
  ⟨2, 4, .cons (.set 2 (.bin .add (.bin .mul (.int 17403) (.var 1)) (.int 9439)))
    (.cons (.ite (.cmp .lt (.var 1) (.len (.var 0)))
    (.cons (.set 2 (.abs (.int1 (.idx (.var 0) (.var 1)))))
    (.nil))
    (.cons (.ite (.cmp .gt (.len (.var 0)) (.int 0))
    (.cons (.set 2 (.bin .add (.var 2) (.bin .mul (.bin .mod (.int1 (.abs (.int1 (.idx (.var 0) (.bin .mod (.int1 (.var 1)) (.len (.var 0))))))) (.int 2147483563)) (.int 88469))))
    (.nil))
    (.nil))
    (.nil)))
    (.cons (.set 3 (.ite (.cmp .ge (.var 2) (.bin .pow (.int 10) (.int 18))) (.var 2) (.int 0)))
    (.cons (.ret (.lst (.cons (.var 3) (.cons (.bin .add (.bin .mod (.int1 (.bin .add (.bin .mul (.bin .mod (.int1 (.var 2)) (.int 2147483563)) (.int 54250003)) (.bin .mul (.int 9439) (.var 1)))) (.int 2147483563)) (.int 1)) (.nil)))))
    (.nil))))⟩
def d__law_take : FnDef :=
  ⟨2, 4, .cons (.ite (.cmp .gt (.idx (.var 0) (.int 0)) (.int 0))
    (.cons (.set 2 (.bin .mod (.int1 (.idx (.var 0) (.int 0))) (.var 1)))
    (.cons (.setI (.var 0) (.int 0) (.bin .fdiv (.idx (.var 0) (.int 0)) (.var 1)))
    (.cons (.ret (.var 2))
    (.nil))))
    (.nil))
    (.cons (.set 3 (.bin .mod (.int1 (.bin .add (.bin .mul (.idx (.var 0) (.int 1)) (.int 39373)) (.int 197))) (.int 2147483647)))
    (.cons (.setI (.var 0) (.int 1) (.bin .add (.bin .mod (.int1 (.bin .add (.bin .mul (.var 3) (.int 40692)) (.int 101))) (.int 2147483563)) (.int 1)))
    (.cons (.ret (.bin .mod (.int1 (.bin .fdiv (.bin .add (.bin .mul (.var 3) (.int 2147483629)) (.idx (.var 0) (.int 1))) (.int 8233))) (.var 1)))
    (.nil))))⟩
def d__law_pick : FnDef :=
  ⟨2, 2, .cons (.ret (.idx (.var 1) (.call "_law_take" (.cons (.var 0) (.cons (.len (.var 1)) (.nil))) (.nil) [])))
    (.nil)⟩
def d__law_same : FnDef :=
  ⟨2, 4, .cons (.ite (.isi (.var 1) .tuple)
    (.cons (.ite (.or (.not (.isi (.var 0) .tuple)) (.cmp .ne (.len (.var 0)) (.len (.var 1))))
    (.cons (.ret (.bl false))
    (.nil))
    (.nil))
    (.cons (.for_ (.many [2, 3]) (.zip (.var 0) (.var 1))
    (.cons (.ite (.not (.call "_law_same" (.cons (.var 2) (.cons (.var 3) (.nil))) (.nil) []))
    (.cons (.ret (.bl false))
    (.nil))
    (.nil))
    (.nil)))
    (.cons (.ret (.bl true))
    (.nil))))
    (.nil))
    (.cons (.ite (.cmp .is (.var 1) (.non))
    (.cons (.ret (.cmp .is (.var 0) (.non)))
    (.nil))
    (.nil))
    (.cons (.ite (.or (.cmp .is (.var 1) (.bl true)) (.cmp .is (.var 1) (.bl false)))
    (.cons (.ret (.and (.isi (.var 0) .bool) (.cmp .eq (.var 0) (.var 1))))
    (.nil))
    (.nil))
    (.cons (.ite (.isi (.var 1) .int)
    (.cons (.ret (.and (.isi (.var 0) .int) (.and (.not (.isi (.var 0) .bool)) (.cmp .eq (.var 0) (.var 1)))))
    (.nil))
    (.nil))
    (.cons (.ret (.and (.isi (.var 0) .str) (.and (.isi (.var 1) .str) (.cmp .eq (.var 0) (.var 1)))))
    (.nil)))))⟩
section
variable {T : Tab} {Γ : Str → Option D} {d : Nat} {G : Hpp}
theorem fmod_lt {i j : Int} (h : 0 < j) : 0 ≤ i.fmod j ∧ i.fmod j < j := ⟨Int.fmod_nonneg_of_pos i h, Int.fmod_lt_of_pos i h⟩
theorem mul_r {i j : Int} (h : j.natAbs < 2 ^ 64) : mulOk i j = true := by
  unfold mulOk
  simp only [Bool.or_eq_true, Bool.and_eq_true, decide_eq_true_eq]
  right
  omega
theorem mul_l {i j : Int} (h : i.natAbs < 2 ^ 64) : mulOk i j = true := by
  unfold mulOk
  simp only [Bool.or_eq_true, Bool.and_eq_true, decide_eq_true_eq]
  left
  omega
theorem ixN_0 {n : Nat} : L2.ixN (n + 1) 0 = some 0 := by
  unfold L2.ixN
  rw [if_pos (by omega), if_pos (by omega)]
  rfl
theorem ixN_1 {n : Nat} : L2.ixN (n + 1 + 1) 1 = some 1 := by
  unfold L2.ixN
  rw [if_pos (by omega), if_pos (by omega)]
  rfl
theorem box_lt {b : Nat} {c : Cell} (hb : G[b]? = some c) : b < G.length := (List.getElem?_eq_some_iff.mp hb).1
theorem take_wp (hT : T "_law_take" = some d__law_take) {b : Nat} {x y many : Int} (hb : G[b]? = some (.lst [.int x, .int y])) (h0 : 0 < many) (h1 : many < 1073741824) :
    (callF T Γ (d + 1) "_law_take" [.ref b, .int many] G).wp fun r G1 => ∃ i x' y' : Int, r = .int i ∧ 0 ≤ i ∧ i < many ∧ G1 = G.set b (.lst [.int x', .int y']) := by
  refine call_eq hT rfl ?_
  have hbl := box_lt hb
  have s1 : ∀ (c : Cell), (G.set b c)[b]? = some c := fun c => List.getElem?_set_self hbl
  have e1 : ∀ v : D, setIR (.val (.ref b)) (.val (.int 0)) v G = some (G.set b (.lst [v, .int y])) := fun v => by rw [st_lst hb ixN_0]; rfl
  have e2 : ∀ v : D, setIR (.val (.ref b)) (.val (.int 1)) v G = some (G.set b (.lst [.int x, v])) := fun v => by rw [st_lst hb ixN_1]; rfl
  have m1 : many ≠ 0 := by omega
  have m2 : many.natAbs < 1073741824 := by omega
  have g : ∀ (v : Int) (c d : Int), gc G (.int v) (G.set b (.lst [.int c, .int d])) = .ok (.int v) (G.set b (.lst [.int c, .int d])) := fun v c d => by
    have := gc_set (G := G) (v := .int v) (b := b) (c := .lst [.int c, .int d]) rfl rfl (ex := [])
    rwa [List.append_nil] at this
  simp [d__law_take, ix_lst hb, ix_lst (s1 _), e1, e2, m1, m2, g, mul_r]
  split
  · exact ⟨(fmod_lt h0).1, (fmod_lt h0).2, _, _, rfl⟩
  · exact ⟨(fmod_lt h0).1, (fmod_lt h0).2, _, _, rfl⟩
/-- some[_law_take(box, len(some))], of a list or a tuple -/
theorem pick_wp (hT : T "_law_take" = some d__law_take) (hP : T "_law_pick" = some d__law_pick) {b : Nat} {x y : Int} {r : D} {ds : List D} (hb : G[b]? = some (.lst [.int x, .int y])) (hr : r = .tup ds ∨ ∃ n, n ≠ b ∧ r = .ref n ∧ G[n]? = some (.lst ds)) (h0 : ds ≠ []) (h1 : ds.length < 1073741824) (hlow : ∀ e ∈ ds, e.low G.length = true) :
    (callF T Γ (d + 2) "_law_pick" [.ref b, r] G).wp fun v G1 => ∃ x' y' : Int, v ∈ ds ∧ G1 = G.set b (.lst [.int x', .int y']) := by
  refine call_eq hP rfl ?_
  have hl0 : 0 < ds.length := List.length_pos_iff.mpr h0
  have len : ∀ {Q : R → Hpp → Prop}, (lenR (.val r) G).wp Q = Q (.val (.int ds.length)) G := by
    intro Q
    rcases hr with rfl | ⟨n, _, rfl, hn⟩
    · rfl
    · simp [lenR, hn]
  have ix : ∀ (x' y' i : Int), 0 ≤ i → i < ds.length → ∃ v ∈ ds, ∀ {Q : R → Hpp → Prop}, (idxR (.val r) (.val (.int i)) (G.set b (.lst [.int x', .int y']))).wp Q = Q (.val v) (G.set b (.lst [.int x', .int y'])) := by
    intro x' y' i i0 i1
    obtain ⟨j, rfl⟩ := Int.eq_ofNat_of_zero_le i0
    have hj : j < ds.length := by omega
    refine ⟨ds[j], List.getElem_mem hj, fun {Q} => ?_⟩
    rcases hr with rfl | ⟨n, nb, rfl, hn⟩
    · rw [ix_tup, at_nat, List.getElem?_eq_getElem hj]
    · rw [ix_lst (ds := ds) (by rw [List.getElem?_set_ne (Ne.symm nb)]; exact hn), at_nat, List.getElem?_eq_getElem hj]
  simp [d__law_pick, len]
  refine wp_imp (take_wp hT hb (by omega) (by omega)) fun v G1 ⟨i, x', y', e, i0, i1, e1⟩ => ?_
  subst e e1
  obtain ⟨v, hv, hx⟩ := ix x' y' i i0 i1
  rw [hx]
  have := gc_set (G := G) (v := v) (b := b) (c := .lst [.int x', .int y']) (hlow v hv) rfl (ex := [])
  rw [List.append_nil] at this
  simp [this]
  exact ⟨hv, _, _, rfl⟩
theorem box_wp (hT : T "_law_box" = some d__law_box) {ns : List Int} {k : Nat} (hk : k < 1000) (hn : ns.length ≤ 63) :
    (callF T Γ (d + 1) "_law_box" [.frl (ns.map .int), .int k] G).wp fun v G1 => ∃ x y : Int, v = .ref G.length ∧ G1 = G ++ [.lst [.int x, .int y]] := by
  refine call_eq hT rfl ?_
  have len : ∀ {Q : R → Hpp → Prop}, (lenR (.val (.frl (ns.map D.int))) G).wp Q = Q (.val (.int ns.length)) G := by
    intro Q
    simp [lenR, seqOf, lstOf]
  have g : ∀ x y : Int, gc G (.ref G.length) (G ++ [.lst [.int x, .int y]]) = .ok (.ref G.length) (G ++ [.lst [.int x, .int y]]) := by
    intro x y
    unfold gc
    have : oldOk G (G ++ [.lst [.int x, .int y]]) = true := by
      unfold oldOk
      rw [List.all_eq_true]
      intro i hi
      rw [List.mem_range] at hi
      rw [List.getElem?_append_left hi]
      simp
    rw [if_pos ⟨this, by simp⟩, if_neg (by simp [D.low])]
    simp [Cell.low, D.lowL, D.low]
  have ix : ∀ (i : Nat) {Q : R → Hpp → Prop}, i < ns.length → ((idxR (.val (.frl (ns.map D.int))) (.val (.int i)) G).wp Q = Q (.val (.int (ns.getD i 0))) G) := by
    intro i Q hi
    show (match seqOf (.val (.frl (ns.map D.int))) G with
      | some ds => match L2.atI ds (i : Int) with
        | some d => okV d G
        | none => .bad
      | none => .bad).wp Q = _
    simp [seqOf, lstOf, at_nat, List.getElem?_eq_getElem hi]
  simp [d__law_box, len, mul_r]
  have m9 : mulOk 9439 (k : Int) = true := mul_l (by decide)
  have fin : ∀ x y : Int, (gc G (D.ref G.length) (G ++ [.lst [.int x, .int y]])).wp fun v G1 => v = D.ref G.length ∧ ∃ x y : Int, G1 = G ++ [.lst [.int x, .int y]] := fun x y => by
    rw [g]
    exact ⟨rfl, _, _, rfl⟩
  refine ⟨mul_l (by decide), ?_⟩
  split
  · rename_i hlt
    rw [ix k hlt]
    dsimp only
    (repeat' split) <;> exact ⟨m9, fin _ _⟩
  · split
    · rename_i hp
      have e : ((k : Int).fmod (ns.length : Int)) = ((k % ns.length : Nat) : Int) := by
        rw [Int.fmod_eq_emod_of_nonneg _ (by omega)]
        rfl
      refine ⟨by intro z; simp [z] at hp, ?_⟩
      rw [e, ix _ (Nat.mod_lt _ hp)]
      dsimp only
      (repeat' split) <;> exact ⟨m9, fin _ _⟩
    · try dsimp only
      (repeat' split) <;> exact ⟨m9, fin _ _⟩
end
end LK

set_option Elab.async false
set_option linter.all false
set_option autoImplicit false
set_option maxRecDepth 100000
set_option maxHeartbeats 2000000
/-! MSame: _law_same of equal data. -/
namespace LK
open PySem
section
variable {T : Tab} {Γ : Str → Option D} {d : Nat} {G : Hpp}
theorem wp_res0 {α : Type} {r : Res α} {a : α} {G : Hpp} (h : r.wp fun b G1 => b = a ∧ G1 = G) : r = .ok a G := by
  obtain ⟨b, G1, e, rfl, rfl⟩ := wp_eq h
  exact e
theorem gc_bl {b : Bool} {G : Hpp} : gc G (.bl b) G = .ok (.bl b) G := by
  have := gc_id (G := G) (v := .bl b) rfl (ex := [])
  rwa [List.append_nil] at this
/-- what is data is the same as itself -/
theorem same_self (hT : T "_law_same" = some d__law_same) : ∀ (k : Nat) (a : D) (d : Nat) (G : Hpp), D.dok k a = true → k < d → callF T Γ d "_law_same" [a, a] G = .ok (.bl true) G := by
  intro k
  induction k with
  | zero =>
    intro a d G h hd
    obtain ⟨d, rfl⟩ : ∃ e, d = e + 1 := ⟨d - 1, by omega⟩
    refine wp_res0 (call_eq hT rfl ?_)
    cases a with
    | tup xs => simp [D.dok] at h
    | ref n => simp [D.dok] at h
    | frl n => simp [D.dok] at h
    | non => simp [d__law_same, isiR, cmpR, isR, gc_bl]
    | bl b => cases b <;> simp [d__law_same, isiR, cmpR, isR, eqR, gc_bl]
    | int i => simp [d__law_same, isiR, cmpR, isR, eqR, gc_bl]
    | str i => simp [d__law_same, isiR, cmpR, isR, eqR, gc_bl]
  | succ k ih =>
    intro a d G h hd
    obtain ⟨d, rfl⟩ : ∃ e, d = e + 1 := ⟨d - 1, by omega⟩
    refine wp_res0 (call_eq hT rfl ?_)
    cases a with
    | tup xs =>
      rw [D.dok, List.all_eq_true] at h
      simp [d__law_same, isiR, cmpR, isR, eqR, gc_bl, lenR, seqOf, R.isTup, toWalk]
      refine loop_at (ds := (xs.zip xs).map fun p => .tup [p.1, p.2]) (fun i ρ G1 => G1 = G ∧ ∃ a b, ρ = [some (.tup xs), some (.tup xs), a, b]) ⟨rfl, _, _, rfl⟩ (fun _ _ _ _ => its_zip its_fix its_fix) (fun i e ρ G1 he ⟨hG, a, b, hρ⟩ => ?_) (fun ρ G1 ⟨hG, _⟩ => ?_)
      · subst hG hρ
        rw [List.getElem?_map] at he
        obtain ⟨p, hp, rfl⟩ := Option.map_eq_some_iff.mp he
        rw [List.getElem?_zip_eq_some] at hp
        have e2 : p.1 = p.2 := Option.some.inj (hp.1.symm.trans hp.2)
        have hm : p.1 ∈ xs := List.mem_of_getElem? hp.1
        have q := ih p.1 d G1 (h _ hm) (by omega)
        rw [e2] at q
        simp [bindTg, setSlots, e2, q]
      · subst hG
        rw [gc_bl]
        exact ⟨rfl, rfl⟩
    | ref n => simp [D.dok] at h
    | frl n => simp [D.dok] at h
    | non => simp [d__law_same, isiR, cmpR, isR, gc_bl]
    | bl b => cases b <;> simp [d__law_same, isiR, cmpR, isR, eqR, gc_bl]
    | int i => simp [d__law_same, isiR, cmpR, isR, eqR, gc_bl]
    | str i => simp [d__law_same, isiR, cmpR, isR, eqR, gc_bl]
end
end LK

set_option Elab.async false
set_option linter.all false
set_option autoImplicit false
set_option maxRecDepth 100000
set_option maxHeartbeats 2000000
/-! MSort: sorted, of numbers and of tuples of numbers. -/
namespace LK
open PySem

def tiD (t : List Int) : D := .tup (t.map .int)
theorem asc_eq {α : Type} {lt : α → α → Prop} (asym : ∀ a b, lt a b → lt b a → False) : ∀ {l m : List α}, l.Pairwise lt → m.Pairwise lt → (∀ t, t ∈ l ↔ t ∈ m) → l = m
  | [], [], _, _, _ => rfl
  | [], y :: m, _, _, h => absurd ((h y).mpr (List.mem_cons_self ..)) (by simp)
  | x :: l, [], _, _, h => absurd ((h x).mp (List.mem_cons_self ..)) (by simp)
  | x :: l, y :: m, hl, hm, h => by
    rw [List.pairwise_cons] at hl hm
    have e : x = y := by
      rcases List.mem_cons.mp ((h x).mp (List.mem_cons_self ..)) with z | z
      · exact z
      · rcases List.mem_cons.mp ((h y).mpr (List.mem_cons_self ..)) with z' | z'
        · exact z'.symm
        · exact (asym _ _ (hl.1 _ z') (hm.1 _ z)).elim
    subst e
    rw [asc_eq asym hl.2 hm.2 fun t => ?_]
    constructor
    · intro ht
      rcases List.mem_cons.mp ((h t).mp (List.mem_cons_of_mem _ ht)) with z | z
      · subst z; exact (asym _ _ (hl.1 _ ht) (hl.1 _ ht)).elim
      · exact z
    · intro ht
      rcases List.mem_cons.mp ((h t).mpr (List.mem_cons_of_mem _ ht)) with z | z
      · subst z; exact (asym _ _ (hm.1 _ ht) (hm.1 _ ht)).elim
      · exact z
theorem ltD_int (i j : Int) : ltD (.int i) (.int j) = decide (i < j) := by
  show PySem.W.dataLt (.int i) (.int j) = _
  unfold PySem.W.dataLt
  rw [PySem.W.keyToks, PySem.W.keyToks, PyProof.Rows.lex_cons]
  show (decide (i < j) || (!decide (j < i) && PyProof.Rows.lexLt PyProof.Rows.itemOrd [] [])) = decide (i < j)
  have : PyProof.Rows.lexLt PyProof.Rows.itemOrd [] [] = false := rfl
  rw [this, Bool.and_false, Bool.or_false]
theorem toPyL_int : ∀ a : List Int, D.toPyL (a.map .int) = a.map PyData.int
  | [] => rfl
  | x :: a => by rw [List.map_cons, D.toPyL, toPyL_int a]; rfl
theorem toks_lt : ∀ a b : List Int, PyProof.Rows.lexLt PyProof.Rows.itemOrd (PySem.W.keyToksAll (a.map PyData.int)) (PySem.W.keyToksAll (b.map PyData.int)) = decide (a < b)
  | [], [] => by
    rw [List.map_nil, PySem.W.keyToksAll, PyProof.Rows.lex_self]
    simp
    rfl
  | [], y :: b => by
    rw [List.map_nil, List.map_cons, PySem.W.keyToksAll, PySem.W.keyToksAll, PyProof.Rows.lex_cons]
    show (decide ((0 : Int) < 1) || _) = _
    simp
  | x :: a, [] => by
    rw [List.map_nil, List.map_cons, PySem.W.keyToksAll, PySem.W.keyToksAll, PyProof.Rows.lex_cons]
    show (decide ((1 : Int) < 0) || (!decide ((0 : Int) < 1) && _)) = _
    simp
  | x :: a, y :: b => by
    rw [List.map_cons, List.map_cons, PySem.W.keyToksAll, PySem.W.keyToksAll, PyProof.Rows.lex_self, PySem.W.keyToks, PySem.W.keyToks]
    show PyProof.Rows.lexLt PyProof.Rows.itemOrd (.inl x :: PySem.W.keyToksAll (a.map PyData.int)) (.inl y :: PySem.W.keyToksAll (b.map PyData.int)) = _
    rw [PyProof.Rows.lex_cons, toks_lt a b]
    show (decide (x < y) || (!decide (y < x) && decide (a < b))) = _
    rw [Bool.eq_iff_iff]
    simp only [Bool.or_eq_true, Bool.and_eq_true, decide_eq_true_eq, Bool.not_eq_true', decide_eq_false_iff_not, List.cons_lt_cons_iff]
    constructor
    · rintro (h | ⟨h1, h2⟩)
      · exact .inl h
      · by_cases h : x < y
        · exact .inl h
        · exact .inr ⟨by omega, h2⟩
    · rintro (h | ⟨rfl, h2⟩)
      · exact .inl h
      · exact .inr ⟨by omega, h2⟩
theorem ltD_tI (a b : List Int) : ltD (tiD a) (tiD b) = decide (a < b) := by
  show PySem.W.dataLt (D.toPy (tiD a)) (D.toPy (tiD b)) = _
  unfold tiD
  rw [D.toPy, D.toPy, toPyL_int, toPyL_int]
  exact toks_lt a b
theorem alike_ints : ∀ a b : List Int, PySem.W.alikeAll (a.map PyData.int) (b.map PyData.int) = true
  | [], _ => by rw [List.map_nil, PySem.W.alikeAll]
  | x :: a, [] => by rw [List.map_nil, List.map_cons, PySem.W.alikeAll]
  | x :: a, y :: b => by rw [List.map_cons, List.map_cons, PySem.W.alikeAll, alike_ints a b, PySem.W.alike]; rfl
theorem dok_int {k : Nat} {i : Int} : D.dok k (.int i) = true := by cases k <;> rfl
theorem dok_tI {k : Nat} {a : List Int} : D.dok (k + 1) (tiD a) = true := by
  unfold tiD
  rw [D.dok, List.all_eq_true]
  intro x hx
  obtain ⟨i, _, rfl⟩ := List.mem_map.mp hx
  exact dok_int
theorem alike_tI (a b : List Int) : alikeD (tiD a) (tiD b) = true := by
  unfold alikeD
  have : PySem.W.alike (D.toPy (tiD a)) (D.toPy (tiD b)) = true := by
    unfold tiD
    rw [D.toPy, D.toPy, toPyL_int, toPyL_int, PySem.W.alike]
    exact alike_ints a b
  rw [this, dok_tI, dok_tI]
  simp [tiD]
theorem alike_int (a b : Int) : alikeD (.int a) (.int b) = true := by
  unfold alikeD
  rw [dok_int, dok_int]
  simp [D.toPy, PySem.W.alike]
theorem sort_map {α : Type} {f : α → D} {le : α → α → Bool} {ks : List α} {G : Hpp} (ha : ∀ a ∈ ks, ∀ b ∈ ks, alikeD (f a) (f b) = true) (hn : ∀ a ∈ ks, f a ≠ .tup []) (hl : ∀ a b, leD (f a) (f b) = le a b) : seqC .sorted (ks.map f) G = .ok (.newL ((ks.mergeSort le).map f)) G := by
  have h : sortOk (ks.map f) = true := by
    unfold sortOk alikeAllD
    simp only [Bool.and_eq_true, List.all_eq_true, List.mem_map]
    refine ⟨?_, ?_⟩
    · rintro x ⟨a, ha', rfl⟩ y ⟨b, hb', rfl⟩
      exact ha a ha' b hb'
    · rintro x ⟨a, ha', rfl⟩
      have := hn a ha'
      split
      · rename_i e; exact absurd e this
      · rfl
  show (if sortOk (ks.map f) = true then Res.ok (R.newL ((ks.map f).mergeSort leD)) G else .bad) = _
  rw [if_pos h, List.map_mergeSort (s := leD) fun a _ b _ => (hl a b).symm]
def leI (a b : Int) : Bool := decide (a ≤ b)
def leT (a b : List Int) : Bool := !decide (b < a)
theorem sort_int {ks : List Int} {G : Hpp} : seqC .sorted (ks.map D.int) G = .ok (.newL ((ks.mergeSort leI).map .int)) G :=
  sort_map (fun a _ b _ => alike_int a b) (fun a _ h => by cases h) fun a b => by
    unfold leD leI
    rw [ltD_int]
    by_cases h : b < a
    · rw [decide_eq_true h, decide_eq_false (by omega)]; rfl
    · rw [decide_eq_false h, decide_eq_true (by omega)]; rfl
theorem sort_tI {ks : List (List Int)} {G : Hpp} (h : ∀ k ∈ ks, k ≠ []) : seqC .sorted (ks.map tiD) G = .ok (.newL ((ks.mergeSort leT).map tiD)) G :=
  sort_map (fun a _ b _ => alike_tI a b) (fun a ha e => h a ha (by
    unfold tiD at e
    injection e with e
    exact List.map_eq_nil_iff.mp e)) fun a b => by
    unfold leD leT
    rw [ltD_tI]
theorem asc_of {α : Type} [DecidableEq α] {le : α → α → Bool} {lt : α → α → Prop} (tr : ∀ a b c, le a b = true → le b c = true → le a c = true) (to : ∀ a b, (le a b || le b a) = true) (st : ∀ a b, le a b = true → a ≠ b → lt a b) {ks : List α} (nd : ks.Nodup) : (ks.mergeSort le).Pairwise lt := by
  have p := List.pairwise_mergeSort tr to ks
  have n : (ks.mergeSort le).Nodup := (List.mergeSort_perm ks le).nodup_iff.mpr nd
  exact (p.and n).imp fun h => st _ _ h.1 h.2
theorem asc_int {ks : List Int} (nd : ks.Nodup) : (ks.mergeSort leI).Pairwise (· < ·) :=
  asc_of (fun a b c h1 h2 => by simp only [leI, decide_eq_true_eq] at *; omega) (fun a b => by simp only [leI, Bool.or_eq_true, decide_eq_true_eq]; omega) (fun a b h1 h2 => by simp only [leI, decide_eq_true_eq] at h1; omega) nd
theorem asc_tI {ks : List (List Int)} (nd : ks.Nodup) : (ks.mergeSort leT).Pairwise (· < ·) :=
  asc_of (fun a b c h1 h2 => by
      simp only [leT, Bool.not_eq_true', decide_eq_false_iff_not] at *
      exact fun h => (List.le_trans (show a ≤ b from h1) (show b ≤ c from h2)) h)
    (fun a b => by
      simp only [leT, Bool.or_eq_true, Bool.not_eq_true', decide_eq_false_iff_not]
      by_cases h : b < a
      · exact .inr (List.lt_asymm h)
      · exact .inl h)
    (fun a b h1 h2 => by
      simp only [leT, Bool.not_eq_true', decide_eq_false_iff_not] at h1
      by_cases h : a < b
      · exact h
      · exact absurd (List.le_antisymm (show a ≤ b from h1) (show b ≤ a from h)) h2) nd
theorem mem_sort {α : Type} {le : α → α → Bool} {ks : List α} {t : α} : t ∈ ks.mergeSort le ↔ t ∈ ks := List.mem_mergeSort
theorem asym_tI (a b : List Int) (h : a < b) (h' : b < a) : False := List.lt_asymm h h'
theorem asym_int (a b : Int) (h : a < b) (h' : b < a) : False := by omega
end LK

set_option Elab.async false
set_option linter.all false
set_option autoImplicit false
set_option maxRecDepth 100000
set_option maxHeartbeats 2000000
/-! MHouse: houses; places_behind, steps_of, passes_of. -/
namespace LK
open PySem
def d_places_behind : FnDef :=
  ⟨2, 3, .cons (.ret (.seq .sorted (.dcomp false (.idx (.idx (.idx (.var 0) (.int 1)) (.var 2)) (.int 0)) (.bl true) (.one 2) (.ex (.idx (.idx (.idx (.var 0) (.int 1)) (.var 1)) (.int 1))) (.cons (.cmp .ne (.var 2) (.glob "OUT")) (.nil)))))
    (.nil)⟩
def d_steps_of : FnDef :=
  ⟨1, 5, .cons (.set 1 (.dnew true))
    (.cons (.for_ (.many [2, 3]) (.enum (.idx (.var 0) (.int 1)))
    (.cons (.for_ (.one 4) (.ex (.call "places_behind" (.cons (.var 0) (.cons (.var 2) (.nil))) (.nil) []))
    (.cons (.setI (.var 1) (.tup (.cons (.idx (.var 3) (.int 0)) (.cons (.var 4) (.nil)))) (.bl true))
    (.nil)))
    (.nil)))
    (.cons (.ret (.seq .tuple (.seq .sorted (.seq .list (.var 1)))))
    (.nil)))⟩
def d_passes_of : FnDef :=
  ⟨1, 6, .cons (.set 1 (.dnew true))
    (.cons (.for_ (.many [2, 3]) (.ex (.idx (.var 0) (.int 1)))
    (.cons (.for_ (.one 4) (.ex (.var 3))
    (.cons (.for_ (.one 5) (.ex (.ite (.cmp .ne (.var 4) (.glob "OUT")) (.call "places_behind" (.cons (.var 0) (.cons (.var 4) (.nil))) (.nil) []) (.lst (.nil))))
    (.cons (.setI (.var 1) (.tup (.cons (.var 2) (.cons (.idx (.idx (.idx (.var 0) (.int 1)) (.var 4)) (.int 0)) (.cons (.var 5) (.nil))))) (.bl true))
    (.nil)))
    (.nil)))
    (.nil)))
    (.cons (.ret (.seq .tuple (.seq .sorted (.seq .list (.var 1)))))
    (.nil)))⟩
/-! ### dicts whose values are all true -/
def addK {α : Type} [DecidableEq α] (ks : List α) (k : α) : List α := if k ∈ ks then ks else ks ++ [k]
theorem dput_true {α : Type} [DecidableEq α] {f : α → D} (inj : ∀ a b, f a = f b → a = b) (ks : List α) (k : α) : dput (ks.map fun k => (f k, D.bl true)) (f k) (.bl true) = (addK ks k).map fun k => (f k, D.bl true) := by
  unfold addK
  have hf : (dfind (ks.map fun k => (f k, D.bl true)) (f k)).isSome = decide (k ∈ ks) := by
    induction ks with
    | nil => rfl
    | cons x ks ih =>
      rw [List.map_cons]
      by_cases h : x = k
      · subst h
        rw [dfind_pos rfl]
        simp
      · rw [dfind_neg (fun e => h (inj _ _ e)), ih]
        have : (k ∈ x :: ks) = (k ∈ ks) := by simp [Ne.symm h]
        simp [this]
  unfold dput
  rw [hf]
  by_cases h : k ∈ ks
  · rw [decide_eq_true h, if_pos rfl, if_pos h]
    rw [List.map_map]
    refine List.map_congr_left fun x _ => ?_
    show (if f x = f k then (f x, D.bl true) else (f x, D.bl true)) = (f x, D.bl true)
    split <;> rfl
  · rw [decide_eq_false h, if_neg Bool.false_ne_true, if_neg h, List.map_append]
    rfl
theorem dcomp_wp {f : D → Hpp → Res (Option (D × D))} {w : Walk} {ds : List D} {Q : List (D × D) → Hpp → Prop} (I : Nat → List (D × D) → Hpp → Prop) (hi : ∀ i acc G, I i acc G → Its w ds G) (hs : ∀ i d acc G, ds[i]? = some d → I i acc G → (f d G).wp fun o G1 => match o with
    | some (k, v) => keyFor false k = true ∧ acc.length < LIM ∧ I (i + 1) (dput acc k v) G1
    | none => I (i + 1) acc G1) (he : ∀ acc G, I ds.length acc G → Q acc G) :
    ∀ (n i : Nat) (acc : List (D × D)) (G : Hpp), i ≤ ds.length → ds.length - i < n → I i acc G → (dcompF f w n i acc G).wp Q
  | 0, _, _, _, _, h, _ => by omega
  | n + 1, i, acc, G, hl', hn, h => by
    rw [dcompF, (hi i acc G h).1 i]
    cases e : ds[i]? with
    | none =>
      have : i = ds.length := by
        have := List.getElem?_eq_none_iff.mp e
        omega
      subst this
      exact he acc G h
    | some d =>
      have hlt := (List.getElem?_eq_some_iff.mp e).1
      have q := hs i d acc G e h
      dsimp only
      rw [wp_bind]
      refine wp_imp q fun o G1 q1 => ?_
      cases o with
      | some x =>
        obtain ⟨k, v⟩ := x
        dsimp only at q1 ⊢
        rw [if_pos ⟨q1.1, q1.2.1⟩]
        exact dcomp_wp I hi hs he n (i + 1) _ G1 hlt (by omega) q1.2.2
      | none => exact dcomp_wp I hi hs he n (i + 1) _ G1 hlt (by omega) q1
theorem dcomp_at {f : D → Hpp → Res (Option (D × D))} {w : Walk} {ds : List D} {G : Hpp} {Q : List (D × D) → Hpp → Prop} (I : Nat → List (D × D) → Hpp → Prop) (h0 : I 0 [] G) (hi : ∀ i acc G, I i acc G → Its w ds G) (hs : ∀ i d acc G, ds[i]? = some d → I i acc G → (f d G).wp fun o G1 => match o with
    | some (k, v) => keyFor false k = true ∧ acc.length < LIM ∧ I (i + 1) (dput acc k v) G1
    | none => I (i + 1) acc G1) (he : ∀ acc G, I ds.length acc G → Q acc G) : (dcompF f w (w.size G + 1) 0 [] G).wp Q :=
  dcomp_wp I hi hs he _ 0 [] G (Nat.zero_le _) (by rw [(hi 0 [] G h0).2]; omega) h0
theorem gc_new {G : Hpp} {c : Cell} (h : c.low G.length = true) : gc G (.ref G.length) (G ++ [c]) = .ok (.ref G.length) (G ++ [c]) := by
  unfold gc
  have : oldOk G (G ++ [c]) = true := by
    unfold oldOk
    rw [List.all_eq_true]
    intro i hi
    rw [List.mem_range] at hi
    rw [List.getElem?_append_left hi]
    simp
  rw [if_pos ⟨this, by simp⟩, if_neg (by simp [D.low])]
  simp [h]
theorem low_ints {n : Nat} : ∀ l : List Int, D.lowL n (l.map .int) = true
  | [] => rfl
  | x :: l => by rw [List.map_cons, D.lowL, low_ints l]; rfl
theorem low_tiD {n : Nat} {t : List Int} : D.low n (tiD t) = true := by unfold tiD; rw [D.low]; exact low_ints t
theorem low_tids {n : Nat} : ∀ l : List (List Int), D.lowL n (l.map tiD) = true
  | [] => rfl
  | x :: l => by rw [List.map_cons, D.lowL, low_tids l, low_tiD]; rfl
/-! ### houses -/
abbrev Stg := Int × List Int
def stD (s : Stg) : D := .tup [.int s.1, .tup (s.2.map .int)]
def hD (seats : List Int) (st : List Stg) : D := .tup [.tup (seats.map .int), .tup (st.map stD)]
structure Hok (seats : List Int) (st : List Stg) : Prop where
  ls : seats.length ≤ 1000
  lst : st.length ≤ 50
  pl : ∀ s ∈ st, 0 ≤ s.1 ∧ s.1 < seats.length
  nx : ∀ s ∈ st, s.2.length ≤ 100 ∧ ∀ a ∈ s.2, a = -1 ∨ 0 ≤ a ∧ a < st.length
def stg (st : List Stg) (a : Int) : Stg := st.getD a.toNat (0, [])
theorem st_at {st : List Stg} {a : Int} (h0 : 0 ≤ a) (h1 : a < st.length) : L2.atI (st.map stD) a = some (stD (stg st a)) := by
  obtain ⟨n, rfl⟩ := Int.eq_ofNat_of_zero_le h0
  have hn : n < st.length := by omega
  rw [at_nat, List.getElem?_map, List.getElem?_eq_getElem hn]
  simp [stg, List.getElem?_eq_getElem hn]
theorem stg_mem {st : List Stg} {a : Int} (h0 : 0 ≤ a) (h1 : a < st.length) : stg st a ∈ st := by
  obtain ⟨n, rfl⟩ := Int.eq_ofNat_of_zero_le h0
  have hn : n < st.length := by omega
  simp [stg, List.getElem?_eq_getElem hn]
section
variable {T : Tab} {Γ : Str → Option D} {d : Nat} {G : Hpp} {seats : List Int} {st : List Stg}
theorem nodup_put {α : Type} [DecidableEq α] {ks : List α} {k : α} (h : ks.Nodup) : (addK ks k).Nodup := by
  unfold addK
  split
  · exact h
  · rename_i hk
    rw [List.nodup_append]
    exact ⟨h, by simp, fun a ha b hb => by simp at hb; subst hb; exact fun e => hk (e ▸ ha)⟩
theorem mem_put {α : Type} [DecidableEq α] {ks : List α} {k t : α} : t ∈ addK ks k ↔ t ∈ ks ∨ t = k := by
  unfold addK
  split
  · rename_i hk
    exact ⟨.inl, fun h => h.elim id fun e => e ▸ hk⟩
  · simp
theorem len_put {α : Type} [DecidableEq α] {ks : List α} {k : α} {n : Nat} (h : ks.length ≤ n) : (addK ks k).length ≤ n + 1 := by
  unfold addK
  split
  · omega
  · simp; exact h
theorem behind_wp (hT : T "places_behind" = some d_places_behind) (hO : Γ "OUT" = some (.int (-1))) (ok : Hok seats st) {n : Int} (h0 : 0 ≤ n) (h1 : n < st.length) :
    (callF T Γ (d + 1) "places_behind" [hD seats st, .int n] G).wp fun v G1 => ∃ l : List Int, v = .ref G.length ∧ G1 = G ++ [.lst (l.map .int)] ∧ l.Pairwise (· < ·) ∧ l.length ≤ 100 ∧ ∀ q, q ∈ l ↔ ∃ a ∈ (stg st n).2, a ≠ -1 ∧ q = (stg st a).1 := by
  refine call_eq hT rfl ?_
  have hs := ok.nx _ (stg_mem h0 h1)
  simp [d_places_behind, hD, ix_tup, st_at h0 h1, stD, toWalk]
  refine dcomp_at (ds := (stg st n).2.map .int) (fun i acc G' => G' = G ∧ ∃ ks : List Int, acc = (ks.map fun k => (D.int k, D.bl true)) ∧ ks.Nodup ∧ ks.length ≤ i ∧ ∀ q, q ∈ ks ↔ ∃ a ∈ (stg st n).2.take i, a ≠ -1 ∧ q = (stg st a).1) ⟨rfl, [], rfl, List.nodup_nil, Nat.le_refl _, by simp⟩ (fun _ _ _ _ => its_fix) (fun i e acc G1 he ⟨hG, ks, ha, nd, hl, hm⟩ => ?_) (fun acc G1 ⟨hG, ks, ha, nd, hl, hm⟩ => ?_)
  · subst hG ha
    rw [List.getElem?_map] at he
    obtain ⟨a, ha, rfl⟩ := Option.map_eq_some_iff.mp he
    have hma := List.mem_of_getElem? ha
    have hlt := (List.getElem?_eq_some_iff.mp ha).1
    have et : (stg st n).2.take (i + 1) = (stg st n).2.take i ++ [a] := by rw [List.take_add_one, ha]; rfl
    simp [dcompV, bindTg, w_glob hO]
    by_cases hn : a = -1
    · subst hn
      simp
      refine ⟨ks, rfl, nd, by omega, fun q => ?_⟩
      rw [hm q, et]
      simp
    · have hr := (hs.2 a hma).resolve_left hn
      simp [hn, hD, ix_tup, st_at hr.1 hr.2, stD]
      refine ⟨rfl, by unfold LIM; omega, _, dput_true (f := D.int) (fun a b e => by injection e) ks _, nodup_put nd, len_put hl, fun q => ?_⟩
      rw [mem_put, hm q, et]
      simp [hn]
  · subst hG ha
    rw [List.length_map, List.take_length] at hm
    have e : seqR .sorted (.newD false (ks.map fun k => (D.int k, D.bl true))) G1 = .ok (.newL ((ks.mergeSort leI).map .int)) G1 := by
      show seqC .sorted ((ks.map fun k => (D.int k, D.bl true)).map (·.1)) G1 = _
      rw [List.map_map]
      exact sort_int
    rw [List.length_map] at hl
    simp [e, gc_new (G := G1) (c := .lst ((ks.mergeSort leI).map .int)) (low_ints _)]
    exact ⟨_, rfl, asc_int nd, by rw [List.length_mergeSort]; omega, fun q => by rw [mem_sort]; exact hm q⟩
end
end LK

set_option Elab.async false
set_option linter.all false
set_option autoImplicit false
set_option maxRecDepth 100000
set_option maxHeartbeats 2000000
/-! MHouse2: steps_of, passes_of. -/
namespace LK
open PySem
def gT (t : List Int) : D × D := (tiD t, .bl true)
theorem tiD_inj (a b : List Int) (h : tiD a = tiD b) : a = b := by
  unfold tiD at h
  injection h with h
  exact List.map_inj_right (fun x y e => by injection e) |>.mp h
theorem kok_int {k : Nat} {i : Int} : D.kok k (.int i) = true := by cases k <;> rfl
theorem key_tiD (t : List Int) : keyFor true (tiD t) = true := by
  unfold keyFor tiD
  have : D.kok 8 (.tup (t.map .int)) = true := by
    rw [D.kok, List.all_eq_true]
    intro x hx
    obtain ⟨i, _, rfl⟩ := List.mem_map.mp hx
    exact kok_int
  rw [this]
  rfl
section
variable {T : Tab} {Γ : Str → Option D} {d : Nat} {G G1 : Hpp} {seats : List Int} {st : List Stg}
theorem get_mid {c : Cell} {j : List Cell} : (G ++ c :: j)[G.length]? = some c := by simp
theorem set_mid {c c' : Cell} {j : List Cell} : (G ++ c :: j).set G.length c' = G ++ c' :: j := by simp
theorem put_mid {n : Nat} {ks : List (List Int)} {t : List Int} (h : G1[n]? = some (.dct true (ks.map gT))) (hl : ks.length < LIM) : setIR (.val (.ref n)) (.val (tiD t)) (.bl true) G1 = some (G1.set n (.dct true ((addK ks t).map gT))) := by
  have e := dput_true (f := tiD) tiD_inj ks t
  simp only [setIR, h]
  rw [if_pos ⟨key_tiD t, by rw [List.length_map]; exact hl⟩]
  show some (G1.set n (.dct true (dput (ks.map fun k => (tiD k, D.bl true)) (tiD t) (.bl true)))) = _
  rw [e]
  rfl
/-- tuple(sorted(list(found))) -/
theorem out_sorted {n : Nat} {ks : List (List Int)} {Q : R → Hpp → Prop} (h : G1[n]? = some (.dct true (ks.map gT))) (hn : ∀ k ∈ ks, k ≠ []) :
    ((seqR .list (.val (.ref n)) G1).wp fun x G2 => (seqR .sorted x G2).wp fun y G3 => (seqR .tuple y G3).wp Q) = Q (.val (.tup ((ks.mergeSort leT).map tiD))) G1 := by
  have e1 : seqR .list (.val (.ref n)) G1 = .ok (.newL (ks.map tiD)) G1 := by
    simp only [seqR, h]
    show Res.ok (R.newL ((ks.map gT).map (·.1))) G1 = _
    rw [List.map_map]
    rfl
  have e2 : seqR .sorted (.newL (ks.map tiD)) G1 = .ok (.newL ((ks.mergeSort leT).map tiD)) G1 := sort_tI hn
  rw [e1, wp_ok, e2]
  rfl
theorem steps_wp (hT : T "places_behind" = some d_places_behind) (hS : T "steps_of" = some d_steps_of) (hO : Γ "OUT" = some (.int (-1))) (ok : Hok seats st) :
    (callF T Γ (d + 2) "steps_of" [hD seats st] G).wp fun v G1 => G1 = G ∧ ∃ l : List (List Int), v = .tup (l.map tiD) ∧ l.Pairwise (· < ·) ∧ ∀ t, t ∈ l ↔ ∃ s ∈ st, ∃ a ∈ s.2, a ≠ -1 ∧ t = [s.1, (stg st a).1] := by
  refine call_eq hS rfl ?_
  have hl30 := ok.lst
  simp [d_steps_of, hD, ix_tup, toWalk, -Prod.exists]
  refine loop_at (ds := (st.map stD).zipIdx.map fun p => .tup [.int p.2, p.1]) (fun i ρ G1 => ∃ ks junk x2 x3 x4, ρ = [some (hD seats st), some (.ref G.length), x2, x3, x4] ∧ G1 = G ++ (.dct true (ks.map gT)) :: junk ∧ ks.Nodup ∧ ks.length ≤ 100 * i ∧ i ≤ st.length ∧ ∀ t, t ∈ ks ↔ ∃ s ∈ st.take i, ∃ a ∈ s.2, a ≠ -1 ∧ t = [s.1, (stg st a).1])
    ⟨[], [], _, _, _, rfl, by simp, List.nodup_nil, by simp, Nat.zero_le _, by simp⟩ (fun _ _ _ _ => its_enum its_fix) (fun i e ρ G1 he ⟨ks, junk, x2, x3, x4, hρ, hG, nd, hl, hi, hm⟩ => ?_) (fun ρ G1 ⟨ks, junk, x2, x3, x4, hρ, hG, nd, hl, hi, hm⟩ => ?_)
  · subst hρ hG
    rw [List.getElem?_map, List.getElem?_zipIdx, List.getElem?_map, Nat.zero_add] at he
    cases hs : st[i]? with
    | none => rw [hs] at he; cases he
    | some s => ?_
    rw [hs] at he
    cases he
    have hlt := (List.getElem?_eq_some_iff.mp hs).1
    have hsm := List.mem_of_getElem? hs
    have eg : stg st (i : Int) = s := by simp [stg, List.getElem?_eq_getElem hlt, (List.getElem?_eq_some_iff.mp hs).2]
    have et : st.take (i + 1) = st.take i ++ [s] := by rw [List.take_add_one, hs]; rfl
    simp [bindTg, setSlots, -Prod.exists]
    refine wp_imp (behind_wp hT hO ok (n := i) (by omega) (by omega)) fun v G2 ⟨l, hv, hG2, hasc, hl100, hq⟩ => ?_
    subst hv hG2
    rw [eg] at hq
    have hcell : ((G ++ Cell.dct true (ks.map gT) :: junk) ++ [Cell.lst (l.map .int)])[(G ++ Cell.dct true (ks.map gT) :: junk).length]? = some (.lst (l.map .int)) := by simp
    generalize hm0 : (G ++ Cell.dct true (ks.map gT) :: junk).length = m at hcell
    have hmG : G.length < m := by rw [← hm0]; simp
    have etw : toWalk (.val (.ref m)) ((G ++ Cell.dct true (ks.map gT) :: junk) ++ [Cell.lst (l.map .int)]) = .ok (.cell m) ((G ++ Cell.dct true (ks.map gT) :: junk) ++ [Cell.lst (l.map .int)]) := by
      simp only [toWalk, hcell]
    rw [etw, wp_ok]
    refine loop_at (ds := l.map .int) (fun j ρ G3 => ∃ ks' junk' x, ρ = [some (hD seats st), some (.ref G.length), some (.int i), some (stD s), x] ∧ G3 = G ++ (.dct true (ks'.map gT)) :: junk' ∧ G3[m]? = some (.lst (l.map .int)) ∧ ks'.Nodup ∧ ks'.length ≤ 100 * i + j ∧ ∀ t, t ∈ ks' ↔ t ∈ ks ∨ ∃ q ∈ l.take j, t = [s.1, q])
      ⟨ks, junk ++ [.lst (l.map .int)], _, rfl, by simp, hcell, nd, by omega, by simp⟩ (fun _ _ _ ⟨_, _, _, _, _, h, _⟩ => its_cell h) (fun j e ρ G3 he ⟨ks', junk', x, hρ, hG, hc, nd', hl', hm'⟩ => ?_) (fun ρ G3 ⟨ks', junk', x, hρ, hG, hc, nd', hl', hm'⟩ => ?_)
    · subst hρ
      rw [List.getElem?_map] at he
      obtain ⟨q, hq', rfl⟩ := Option.map_eq_some_iff.mp he
      have hjlt := (List.getElem?_eq_some_iff.mp hq').1
      have hd : G3[G.length]? = some (.dct true (ks'.map gT)) := by rw [hG]; exact get_mid
      have ep := put_mid (t := [s.1, q]) hd (by unfold LIM; omega)
      have el : l.take (j + 1) = l.take j ++ [q] := by rw [List.take_add_one, hq']; rfl
      have ek : (D.tup [.int s.1, .int q]) = tiD [s.1, q] := rfl
      simp [bindTg, ix_tup, stD, ek, ep, -Prod.exists]
      refine ⟨_, ⟨junk', by rw [hG, set_mid]⟩, ?_, nodup_put nd', len_put hl', fun t => ?_⟩
      · rw [List.getElem?_set_ne (by omega)]; exact hc
      · rw [mem_put, hm' t, el]
        simp [or_assoc]
    · subst hρ
      refine ⟨⟨_, _, _, rfl⟩, ks', ⟨junk', hG⟩, nd', ?_, hlt, fun t => ?_⟩
      · rw [List.length_map] at hl'; omega
      · rw [hm' t, hm t, et, List.length_map, List.take_length]
        constructor
        · rintro (⟨p, hp, a, ha, h⟩ | ⟨q, hq2, rfl⟩)
          · exact ⟨p, List.mem_append_left _ hp, a, ha, h⟩
          · obtain ⟨a, ha, h1, rfl⟩ := (hq q).mp hq2
            exact ⟨s, List.mem_append_right _ (List.mem_singleton.mpr rfl), a, ha, h1, rfl⟩
        · rintro ⟨p, hp, a, ha, h1, h2⟩
          rcases List.mem_append.mp hp with hp | hp
          · exact .inl ⟨p, hp, a, ha, h1, h2⟩
          · rw [List.mem_singleton] at hp
            subst hp
            exact .inr ⟨_, (hq _).mpr ⟨a, ha, h1, rfl⟩, h2⟩
  · subst hρ
    have hd : G1[G.length]? = some (.dct true (ks.map gT)) := by rw [hG]; exact get_mid
    have hne : ∀ k ∈ ks, k ≠ [] := fun k hk => by
      obtain ⟨s, _, a, _, _, rfl⟩ := (hm k).mp hk
      simp
    have eo := out_sorted (Q := fun x G2 => (toD x G2).wp fun v G2 => (gc G v G2).wp fun v G1 => G1 = G ∧ ∃ l : List (List Int), v = .tup (l.map tiD) ∧ l.Pairwise (· < ·) ∧ ∀ t, t ∈ l ↔ ∃ s ∈ st, ∃ a ∈ s.2, a ≠ -1 ∧ t = [s.1, (stg st a).1]) hd hne
    simp [-Prod.exists] at eo ⊢
    rw [eo, hG, gc_id (by rw [D.low]; exact low_tids _)]
    refine ⟨rfl, _, rfl, asc_tI nd, fun t => ?_⟩
    rw [mem_sort, hm t]
    simp
def Beh (st : List Stg) (a q : Int) : Prop := ∃ b ∈ (stg st a).2, b ≠ -1 ∧ q = (stg st b).1
theorem passes_wp (hT : T "places_behind" = some d_places_behind) (hS : T "passes_of" = some d_passes_of) (hO : Γ "OUT" = some (.int (-1))) (ok : Hok seats st) :
    (callF T Γ (d + 2) "passes_of" [hD seats st] G).wp fun v G1 => G1 = G ∧ ∃ l : List (List Int), v = .tup (l.map tiD) ∧ l.Pairwise (· < ·) ∧ ∀ t, t ∈ l ↔ ∃ s ∈ st, ∃ a ∈ s.2, a ≠ -1 ∧ ∃ q, Beh st a q ∧ t = [s.1, (stg st a).1, q] := by
  refine call_eq hS rfl ?_
  have hl30 := ok.lst
  simp [d_passes_of, hD, ix_tup, toWalk, -Prod.exists]
  refine loop_at (ds := st.map stD) (fun i ρ G1 => ∃ ks junk x2 x3 x4 x5, ρ = [some (hD seats st), some (.ref G.length), x2, x3, x4, x5] ∧ G1 = G ++ (.dct true (ks.map gT)) :: junk ∧ ks.Nodup ∧ ks.length ≤ 10000 * i ∧ i ≤ st.length ∧ ∀ t, t ∈ ks ↔ ∃ s ∈ st.take i, ∃ a ∈ s.2, a ≠ -1 ∧ ∃ q, Beh st a q ∧ t = [s.1, (stg st a).1, q])
    ⟨[], [], _, _, _, _, rfl, by simp, List.nodup_nil, by simp, Nat.zero_le _, by simp⟩ (fun _ _ _ _ => its_fix) (fun i e ρ G1 he ⟨ks, junk, x2, x3, x4, x5, hρ, hG, nd, hl, hi, hm⟩ => ?_) (fun ρ G1 ⟨ks, junk, x2, x3, x4, x5, hρ, hG, nd, hl, hi, hm⟩ => ?_)
  · subst hρ hG
    rw [List.getElem?_map] at he
    cases hs : st[i]? with
    | none => rw [hs] at he; cases he
    | some s => ?_
    rw [hs] at he
    cases he
    have hlt := (List.getElem?_eq_some_iff.mp hs).1
    have hsm := List.mem_of_getElem? hs
    have hnx := ok.nx s hsm
    have et : st.take (i + 1) = st.take i ++ [s] := by rw [List.take_add_one, hs]; rfl
    simp [bindTg, setSlots, stD, toWalk, -Prod.exists]
    refine loop_at (ds := s.2.map .int) (fun j ρ G3 => ∃ ks' junk' x y, ρ = [some (hD seats st), some (.ref G.length), some (.int s.1), some (.tup (s.2.map .int)), x, y] ∧ G3 = G ++ (.dct true (ks'.map gT)) :: junk' ∧ ks'.Nodup ∧ ks'.length ≤ 10000 * i + 100 * j ∧ j ≤ s.2.length ∧ ∀ t, t ∈ ks' ↔ t ∈ ks ∨ ∃ a ∈ s.2.take j, a ≠ -1 ∧ ∃ q, Beh st a q ∧ t = [s.1, (stg st a).1, q])
      ⟨ks, junk, _, _, rfl, rfl, nd, by omega, Nat.zero_le _, by simp⟩ (fun _ _ _ _ => its_fix) (fun j e ρ G3 he ⟨ks', junk', x, y, hρ, hG, nd', hl', hj, hm'⟩ => ?_) (fun ρ G3 ⟨ks', junk', x, y, hρ, hG, nd', hl', hj, hm'⟩ => ?_)
    · subst hρ
      rw [List.getElem?_map] at he
      obtain ⟨a, ha, rfl⟩ := Option.map_eq_some_iff.mp he
      have hjlt := (List.getElem?_eq_some_iff.mp ha).1
      have el : s.2.take (j + 1) = s.2.take j ++ [a] := by rw [List.take_add_one, ha]; rfl
      simp [bindTg, w_glob hO, -Prod.exists]
      by_cases hn : a = -1
      · subst hn
        simp [toWalk, -Prod.exists]
        refine loop_at (ds := []) (fun _ ρ G4 => G4 = G3 ∧ ∃ z, ρ = [some (hD seats st), some (.ref G.length), some (.int s.1), some (.tup (s.2.map .int)), some (.int (-1)), z]) ⟨rfl, _, rfl⟩ (fun _ _ _ _ => its_fix) (fun j e ρ G3 he _ => by simp at he) (fun ρ G4 ⟨h4, z, hρ⟩ => ?_)
        subst h4 hρ
        refine ⟨⟨_, _, rfl⟩, ks', ⟨junk', hG⟩, nd', by omega, hjlt, fun t => ?_⟩
        rw [hm' t, el]
        simp
      · have hr := (hnx.2 a (List.mem_of_getElem? ha)).resolve_left hn
        simp [hn, -Prod.exists]
        refine wp_imp (behind_wp hT hO ok (n := a) hr.1 hr.2) fun v G2 ⟨l, hv, hG2, hasc, hl100, hq⟩ => ?_
        subst hv hG2
        have hcell : (G3 ++ [Cell.lst (l.map .int)])[G3.length]? = some (.lst (l.map .int)) := by simp
        have hmG : G.length < G3.length := by rw [hG]; simp
        generalize hm0 : G3.length = m at hcell hmG
        have etw : toWalk (.val (.ref m)) (G3 ++ [Cell.lst (l.map .int)]) = .ok (.cell m) (G3 ++ [Cell.lst (l.map .int)]) := by
          simp only [toWalk, hcell]
        rw [etw, wp_ok]
        refine loop_at (ds := l.map .int) (fun k ρ G4 => ∃ ks2 junk2 z, ρ = [some (hD seats st), some (.ref G.length), some (.int s.1), some (.tup (s.2.map .int)), some (.int a), z] ∧ G4 = G ++ (.dct true (ks2.map gT)) :: junk2 ∧ G4[m]? = some (.lst (l.map .int)) ∧ ks2.Nodup ∧ ks2.length ≤ 10000 * i + 100 * j + k ∧ ∀ t, t ∈ ks2 ↔ t ∈ ks' ∨ ∃ q ∈ l.take k, t = [s.1, (stg st a).1, q])
          ⟨ks', junk' ++ [.lst (l.map .int)], _, rfl, by rw [hG]; simp, hcell, nd', by omega, by simp⟩ (fun _ _ _ ⟨_, _, _, _, _, h, _⟩ => its_cell h) (fun k e ρ G4 he ⟨ks2, junk2, z, hρ, hG4, hc, nd2, hl2, hm2⟩ => ?_) (fun ρ G4 ⟨ks2, junk2, z, hρ, hG4, hc, nd2, hl2, hm2⟩ => ?_)
        · subst hρ
          rw [List.getElem?_map] at he
          obtain ⟨q, hq', rfl⟩ := Option.map_eq_some_iff.mp he
          have hklt := (List.getElem?_eq_some_iff.mp hq').1
          have hd : G4[G.length]? = some (.dct true (ks2.map gT)) := by rw [hG4]; exact get_mid
          have ep := put_mid (t := [s.1, (stg st a).1, q]) hd (by unfold LIM; omega)
          have el2 : l.take (k + 1) = l.take k ++ [q] := by rw [List.take_add_one, hq']; rfl
          have ek : (D.tup [.int s.1, .int (stg st a).1, .int q]) = tiD [s.1, (stg st a).1, q] := rfl
          simp [bindTg, ix_tup, hD, st_at hr.1 hr.2, stD, ek, ep, -Prod.exists]
          refine ⟨_, ⟨junk2, by rw [hG4, set_mid]⟩, ?_, nodup_put nd2, len_put hl2, fun t => ?_⟩
          · rw [List.getElem?_set_ne (by omega)]; exact hc
          · rw [mem_put, hm2 t, el2]
            simp [or_assoc]
        · subst hρ
          refine ⟨⟨_, _, rfl⟩, ks2, ⟨junk2, hG4⟩, nd2, ?_, hjlt, fun t => ?_⟩
          · rw [List.length_map] at hl2; omega
          · rw [hm2 t, hm' t, el, List.length_map, List.take_length]
            constructor
            · rintro ((h | ⟨b, hb, h⟩) | ⟨q, hq2, h⟩)
              · exact .inl h
              · exact .inr ⟨b, List.mem_append_left _ hb, h⟩
              · exact .inr ⟨a, List.mem_append_right _ (List.mem_singleton.mpr rfl), hn, q, (hq q).mp hq2, h⟩
            · rintro (h | ⟨b, hb, h1, q, h2, h3⟩)
              · exact .inl (.inl h)
              · rcases List.mem_append.mp hb with hb | hb
                · exact .inl (.inr ⟨b, hb, h1, q, h2, h3⟩)
                · rw [List.mem_singleton] at hb
                  subst hb
                  exact .inr ⟨q, (hq q).mpr h2, h3⟩
    · subst hρ
      refine ⟨⟨_, _, _, _, rfl⟩, ks', ⟨junk', hG⟩, nd', ?_, hlt, fun t => ?_⟩
      · rw [List.length_map] at hl'; omega
      · rw [hm' t, hm t, et, List.length_map, List.take_length]
        constructor
        · rintro (⟨p, hp, h⟩ | h)
          · exact ⟨p, List.mem_append_left _ hp, h⟩
          · exact ⟨s, List.mem_append_right _ (List.mem_singleton.mpr rfl), h⟩
        · rintro ⟨p, hp, h⟩
          rcases List.mem_append.mp hp with hp | hp
          · exact .inl ⟨p, hp, h⟩
          · rw [List.mem_singleton] at hp
            subst hp
            exact .inr h
  · subst hρ
    have hd : G1[G.length]? = some (.dct true (ks.map gT)) := by rw [hG]; exact get_mid
    have hne : ∀ k ∈ ks, k ≠ [] := fun k hk => by
      obtain ⟨s, _, a, _, _, q, _, rfl⟩ := (hm k).mp hk
      simp
    have eo := out_sorted (Q := fun x G2 => (toD x G2).wp fun v G2 => (gc G v G2).wp fun v G1 => G1 = G ∧ ∃ l : List (List Int), v = .tup (l.map tiD) ∧ l.Pairwise (· < ·) ∧ ∀ t, t ∈ l ↔ ∃ s ∈ st, ∃ a ∈ s.2, a ≠ -1 ∧ ∃ q, Beh st a q ∧ t = [s.1, (stg st a).1, q]) hd hne
    simp [-Prod.exists] at eo ⊢
    rw [eo, hG, gc_id (by rw [D.low]; exact low_tids _)]
    refine ⟨rfl, _, rfl, asc_tI nd, fun t => ?_⟩
    rw [mem_sort, hm t]
    simp
end
end LK

set_option Elab.async false
set_option linter.all false
set_option autoImplicit false
set_option maxRecDepth 100000
set_option maxHeartbeats 2000000
/-! K02Law: law k02's own steps and passes. -/
namespace LK
open PySem
def d__law_steps : FnDef :=
  ⟨1, 10, .cons (.setT [1, 2] (.var 0))
    (.cons (.set 3 (.lst (.nil)))
    (.cons (.for_ (.one 4) (.rng1 (.len (.var 1)))
    (.cons (.set 5 (.lst (.nil)))
    (.cons (.for_ (.many [6, 7]) (.ex (.var 2))
    (.cons (.ite (.cmp .eq (.var 6) (.var 4))
    (.cons (.set 5 (.bin .add (.var 5) (.comp (.idx (.idx (.var 2) (.var 8)) (.int 0)) (.one 8) (.ex (.var 7)) (.cons (.cmp .ge (.var 8) (.int 0)) (.nil)))))
    (.nil))
    (.nil))
    (.nil)))
    (.cons (.set 3 (.bin .add (.var 3) (.comp (.tup (.cons (.var 4) (.cons (.var 9) (.nil)))) (.one 9) (.rng1 (.len (.var 1))) (.cons (.cmp .isin (.var 9) (.var 5)) (.nil)))))
    (.nil)))))
    (.cons (.ret (.seq .tuple (.var 3)))
    (.nil))))⟩
def d__law_passes : FnDef :=
  ⟨1, 7, .cons (.setT [1, 2] (.tup (.cons (.idx (.var 0) (.int 1)) (.cons (.lst (.nil)) (.nil)))))
    (.cons (.for_ (.many [3, 4]) (.ex (.var 1))
    (.cons (.for_ (.one 5) (.ex (.var 4))
    (.cons (.for_ (.one 6) (.ex (.ite (.cmp .ge (.var 5) (.int 0)) (.idx (.idx (.var 1) (.var 5)) (.int 1)) (.tup (.nil))))
    (.cons (.ite (.and (.cmp .ge (.var 6) (.int 0)) (.cmp .notin (.tup (.cons (.var 3) (.cons (.idx (.idx (.var 1) (.var 5)) (.int 0)) (.cons (.idx (.idx (.var 1) (.var 6)) (.int 0)) (.nil))))) (.var 2)))
    (.cons (.expr (.meth1 .append (.var 2) (.tup (.cons (.var 3) (.cons (.idx (.idx (.var 1) (.var 5)) (.int 0)) (.cons (.idx (.idx (.var 1) (.var 6)) (.int 0)) (.nil)))))))
    (.nil))
    (.nil))
    (.nil)))
    (.nil)))
    (.nil)))
    (.cons (.ret (.seq .tuple (.seq .sorted (.var 2))))
    (.nil)))⟩
theorem wp_res {α : Type} {r : Res α} {a : α} {G : Hpp} (h : r.wp fun b G1 => b = a ∧ G1 = G) : r = .ok a G := by
  obtain ⟨b, G1, e, rfl, rfl⟩ := wp_eq h
  exact e
theorem add_lst {r q : R} {G : Hpp} {xs ys : List D} {Q : R → Hpp → Prop} (h1 : lstM r G = some xs) (h2 : lstM q G = some ys) (hl : xs.length + ys.length ≤ LIM) : (binR .add r q G).wp Q = Q (.newL (xs ++ ys)) G := by
  have key : binR .add r q G = .ok (.newL (xs ++ ys)) G := by
    unfold binR
    split
    · simp [lstM] at h1
    · simp [lstM] at h1
    · simp [lstM] at h1
    · simp [lstM] at h1
    · simp [lstM] at h2
    · rw [h1, h2]
      exact if_pos hl
  rw [key]
  rfl
theorem m_ref {n : Nat} {G : Hpp} {ds : List D} (h : G[n]? = some (.lst ds)) : lstM (.val (.ref n)) G = some ds := by simp only [lstM, h]
theorem eqv_int (i j : Int) : D.eqv (.int i) (.int j) = (i == j) := rfl
theorem eqvL_ints : ∀ a b : List Int, D.eqvL (a.map .int) (b.map .int) = decide (a = b)
  | [], [] => rfl
  | [], y :: b => by simp [D.eqvL]
  | x :: a, [] => by simp [D.eqvL]
  | x :: a, y :: b => by
    rw [List.map_cons, List.map_cons, D.eqvL, eqvL_ints a b, eqv_int, Bool.eq_iff_iff]
    simp
theorem eqv_tiD (a b : List Int) : D.eqv (tiD a) (tiD b) = decide (a = b) := by
  unfold tiD
  rw [D.eqv, eqvL_ints]
theorem all_int {k : Nat} (l : List Int) : (l.map D.int).all (D.dok k) = true := by
  rw [List.all_eq_true]
  intro x hx
  obtain ⟨i, _, rfl⟩ := List.mem_map.mp hx
  exact dok_int
theorem all_tiD {k : Nat} (l : List (List Int)) : (l.map tiD).all (D.dok (k + 1)) = true := by
  rw [List.all_eq_true]
  intro x hx
  obtain ⟨i, _, rfl⟩ := List.mem_map.mp hx
  exact dok_tI
theorem in_ints {n : Nat} {G : Hpp} {l : List Int} {i : Int} (h : G[n]? = some (.lst (l.map .int))) : cmpR .isin (.val (.int i)) (.val (.ref n)) G = some (decide (i ∈ l)) := by
  show inR (.val (.int i)) (.val (.ref n)) G = _
  simp only [inR, h]
  rw [if_pos (by rw [dok_int, all_int]; rfl)]
  congr 1
  rw [List.any_map, Bool.eq_iff_iff]
  simp [eqv_int]
theorem in_tiDs {n : Nat} {G : Hpp} {l : List (List Int)} {t : List Int} (h : G[n]? = some (.lst (l.map tiD))) : cmpR .notin (.val (tiD t)) (.val (.ref n)) G = some (!decide (t ∈ l)) := by
  show (inR (.val (tiD t)) (.val (.ref n)) G).map (!·) = _
  simp only [inR, h]
  rw [if_pos (by rw [dok_tI, all_tiD]; rfl)]
  simp only [Option.map_some]
  congr 2
  rw [List.any_map, Bool.eq_iff_iff]
  simp [eqv_tiD]
section
variable {T : Tab} {Γ : Str → Option D} {d : Nat} {G : Hpp} {seats : List Int} {st : List Stg}
def goalO (st : List Stg) (a : Int) : Option Int := if 0 ≤ a then some (stg st a).1 else none
def goalD (st : List Stg) : D → Option D
  | .int a => (goalO st a).map .int
  | _ => none
def stepO (gs : List Int) (one : Int) : D → Option D
  | .int two => if two ∈ gs then some (tiD [one, two]) else none
  | _ => none
theorem filt_map {α β : Type} {f : α → D} {g : β → D} {o : D → Option D} {o' : α → Option β} (h : ∀ a, o (f a) = (o' a).map g) : ∀ l : List α, (l.map f).filterMap o = (l.filterMap o').map g
  | [] => rfl
  | a :: l => by
    rw [List.map_cons, List.filterMap_cons, List.filterMap_cons, h a]
    cases o' a with
    | none => exact filt_map h l
    | some b => rw [Option.map_some, List.map_cons, filt_map h l]
theorem lsteps_wp (hS : T "_law_steps" = some d__law_steps) (ok : Hok seats st) :
    (callF T Γ (d + 1) "_law_steps" [hD seats st] G).wp fun v G1 => G1 = G ∧ ∃ l : List (List Int), v = .tup (l.map tiD) ∧ l.Pairwise (· < ·) ∧ ∀ t, t ∈ l ↔ ∃ s ∈ st, ∃ a ∈ s.2, a ≠ -1 ∧ t = [s.1, (stg st a).1] := by
  refine call_eq hS rfl ?_
  have hl30 := ok.lst
  have hls := ok.ls
  have L0 : (LIM : Int) = 1000000 := rfl
  simp [d__law_steps, hD, setSlots, lenR, seqOf, -Prod.exists]
  refine ⟨by unfold LIM; omega, ?_⟩
  obtain ⟨I, hI⟩ : ∃ I : Nat → Env → Hpp → Prop, ∀ i ρ G1, I i ρ G1 ↔ ∃ (fs : List (List Int)) (f : Nat) (junk : Hpp) (x4 x5 x6 x7 x8 x9 : Option D), ρ = [some (hD seats st), some (.tup (seats.map .int)), some (.tup (st.map stD)), some (.ref f), x4, x5, x6, x7, x8, x9] ∧ G1 = G ++ junk ∧ G1[f]? = some (.lst (fs.map tiD)) ∧ fs.length ≤ 1000 * i ∧ i ≤ seats.length ∧ fs.Pairwise (· < ·) ∧ ∀ t, t ∈ fs ↔ ∃ one two : Int, (0 ≤ one ∧ one < i) ∧ (0 ≤ two ∧ two < seats.length) ∧ t = [one, two] ∧ ∃ s ∈ st, s.1 = one ∧ ∃ a ∈ s.2, 0 ≤ a ∧ two = (stg st a).1 := ⟨_, fun _ _ _ => Iff.rfl⟩
  refine loop_at (ds := (List.range seats.length).map fun (k : Nat) => D.int (0 + k)) I ((hI _ _ _).mpr
    ⟨[], _, [_], _, _, _, _, _, _, rfl, rfl, by simp, by simp, Nat.zero_le _, List.Pairwise.nil, fun t => ⟨fun h => by simp at h, fun ⟨_, _, h, _⟩ => by omega⟩⟩) (fun _ _ _ _ => its_rng) (fun i e ρ G1 he h => ?_) (fun ρ G1 h => ?_)
  · obtain ⟨fs, f, junk, x4, x5, x6, x7, x8, x9, rfl, hG, hf, hfl, hi, hasc, hm⟩ := (hI _ _ _).mp h
    have hilt : i < seats.length := by
      have := (List.getElem?_eq_some_iff.mp he).1
      simpa using this
    have ee : e = .int i := by
      rw [List.getElem?_map, List.getElem?_range hilt] at he
      simp at he
      exact he.symm
    subst ee
    have hfl1 : f < G1.length := (List.getElem?_eq_some_iff.mp hf).1
    simp [bindTg, toWalk, -Prod.exists]
    obtain ⟨J, hJ⟩ : ∃ J : Nat → Env → Hpp → Prop, ∀ j ρ G2, J j ρ G2 ↔ ∃ (gs : List Int) (g : Nat) (junk' : Hpp) (x6 x7 x8 x9 : Option D), ρ = [some (hD seats st), some (.tup (seats.map .int)), some (.tup (st.map stD)), some (.ref f), some (.int i), some (.ref g), x6, x7, x8, x9] ∧ G2 = G ++ junk' ∧ G2[f]? = some (.lst (fs.map tiD)) ∧ G2[g]? = some (.lst (gs.map .int)) ∧ gs.length ≤ 100 * j ∧ j ≤ st.length ∧ ∀ q, q ∈ gs ↔ ∃ s ∈ st.take j, s.1 = (i : Int) ∧ ∃ a ∈ s.2, 0 ≤ a ∧ q = (stg st a).1 := ⟨_, fun _ _ _ => Iff.rfl⟩
    refine loop_at (ds := st.map stD) J ((hJ _ _ _).mpr
      ⟨[], _, junk ++ [.lst []], _, _, _, _, rfl, by rw [hG]; simp, by rw [List.getElem?_append_left hfl1]; exact hf, by simp, by simp, Nat.zero_le _, by simp⟩) (fun _ _ _ _ => its_fix) (fun j e ρ G2 he h => ?_) (fun ρ G2 h => ?_)
    · obtain ⟨gs, g, junk', x6, x7, x8, x9, rfl, hG2, hf2, hg, hgl, hj, hq⟩ := (hJ _ _ _).mp h
      rw [List.getElem?_map] at he
      cases hs : st[j]? with
      | none => rw [hs] at he; cases he
      | some s => ?_
      rw [hs] at he
      cases he
      have hjlt := (List.getElem?_eq_some_iff.mp hs).1
      have hsm := List.mem_of_getElem? hs
      have hnx := ok.nx s hsm
      have et : st.take (j + 1) = st.take j ++ [s] := by rw [List.take_add_one, hs]; rfl
      simp [bindTg, setSlots, stD, toWalk, -Prod.exists]
      by_cases h1 : s.1 = (i : Int)
      · rw [if_pos h1]
        refine comp_pure (ds := s.2.map .int) (goalD st) its_fix (by rw [List.length_map]; unfold LIM; omega) (fun d hd => ?_) ?_
        · obtain ⟨a, ha, rfl⟩ := List.mem_map.mp hd
          refine wp_res ?_
          by_cases h0 : 0 ≤ a
          · have hr := (hnx.2 a ha).resolve_left (by omega)
            simp [compV, bindTg, ix_tup, h0, st_at hr.1 hr.2, stD, goalD, goalO]
          · simp [compV, bindTg, h0, goalD, goalO]
        · have e1 : (s.2.map D.int).filterMap (goalD st) = (s.2.filterMap (goalO st)).map .int := filt_map (fun a => rfl) _
          have hfl3 : (s.2.filterMap (goalO st)).length ≤ 100 := Nat.le_trans (List.length_filterMap_le _ _) hnx.1
          rw [e1, add_lst (m_ref hg) rfl (by rw [List.length_map, List.length_map]; unfold LIM; omega), ← List.map_append]
          simp [-Prod.exists, -List.map_append]
          refine (hJ _ _ _).mpr ⟨gs ++ s.2.filterMap (goalO st), _, junk' ++ [_], _, _, _, _, rfl, by rw [hG2, List.append_assoc], ?_, by simp, ?_, hjlt, fun q => ?_⟩
          · rw [List.getElem?_append_left (List.getElem?_eq_some_iff.mp hf2).1]; exact hf2
          · rw [List.length_append]; omega
          · rw [List.mem_append, hq q, et, List.mem_filterMap]
            constructor
            · rintro (⟨p, hp, h⟩ | ⟨a, ha, h⟩)
              · exact ⟨p, List.mem_append_left _ hp, h⟩
              · unfold goalO at h
                split at h
                · rename_i h0
                  exact ⟨s, List.mem_append_right _ (List.mem_singleton.mpr rfl), h1, a, ha, h0, (Option.some.inj h).symm⟩
                · cases h
            · rintro ⟨p, hp, h⟩
              rcases List.mem_append.mp hp with hp | hp
              · exact .inl ⟨p, hp, h⟩
              · rw [List.mem_singleton] at hp
                subst hp
                obtain ⟨_, a, ha, h0, rfl⟩ := h
                exact .inr ⟨a, ha, by unfold goalO; rw [if_pos h0]⟩
      · rw [if_neg h1]
        refine (hJ _ _ _).mpr ⟨gs, g, junk', _, _, _, _, rfl, hG2, hf2, hg, by omega, hjlt, fun q => ?_⟩
        rw [hq q, et]
        constructor
        · rintro ⟨p, hp, h⟩; exact ⟨p, List.mem_append_left _ hp, h⟩
        · rintro ⟨p, hp, h⟩
          rcases List.mem_append.mp hp with hp | hp
          · exact ⟨p, hp, h⟩
          · rw [List.mem_singleton] at hp
            subst hp
            exact absurd h.1 h1
    · obtain ⟨gs, g, junk', x6, x7, x8, x9, rfl, hG2, hf2, hg, hgl, hj, hq⟩ := (hJ _ _ _).mp h
      rw [List.length_map, List.take_length] at hq
      simp [lenR, seqOf, -Prod.exists]
      refine ⟨by unfold LIM; omega, ?_⟩
      refine comp_pure (ds := (List.range seats.length).map fun (k : Nat) => D.int (0 + k)) (stepO gs i) its_rng (by simp; unfold LIM; omega) (fun d hd => ?_) ?_
      · obtain ⟨k, hk, rfl⟩ := List.mem_map.mp hd
        refine wp_res ?_
        by_cases h0 : ((0 : Int) + k) ∈ gs
        · have h0' : (k : Int) ∈ gs := by simpa using h0
          simp [compV, bindTg, in_ints hg, h0', stepO, tiD]
        · have h0' : ¬ (k : Int) ∈ gs := by simpa using h0
          simp [compV, bindTg, in_ints hg, h0', stepO]
      · have e1 : ((List.range seats.length).map fun (k : Nat) => D.int (0 + k)).filterMap (stepO gs i) = ((List.range seats.length).filterMap fun (k : Nat) => if (k : Int) ∈ gs then some [(i : Int), (k : Int)] else none).map tiD :=
          filt_map (fun k => by
            show stepO gs i (.int (0 + k)) = _
            unfold stepO
            rw [Int.zero_add]
            dsimp only
            split <;> rfl) _
        generalize hnew : ((List.range seats.length).filterMap fun (k : Nat) => if (k : Int) ∈ gs then some [(i : Int), (k : Int)] else none) = new at e1
        have hnl : new.length ≤ 1000 := by
          rw [← hnew]
          exact Nat.le_trans (List.length_filterMap_le _ _) (by simp; omega)
        have hnm : ∀ t, t ∈ new ↔ ∃ two : Int, (0 ≤ two ∧ two < seats.length) ∧ t = [(i : Int), two] ∧ two ∈ gs := fun t => by
          rw [← hnew, List.mem_filterMap]
          constructor
          · rintro ⟨k, hk, h⟩
            split at h
            · rename_i hg'
              rw [List.mem_range] at hk
              exact ⟨k, ⟨by omega, by omega⟩, (Option.some.inj h).symm, hg'⟩
            · cases h
          · rintro ⟨two, ⟨h0, h1⟩, rfl, hg'⟩
            obtain ⟨k, rfl⟩ := Int.eq_ofNat_of_zero_le h0
            exact ⟨k, List.mem_range.mpr (by omega), by rw [if_pos hg']⟩
        have hna : new.Pairwise (· < ·) := by
          rw [← hnew, List.pairwise_filterMap]
          refine List.Pairwise.imp ?_ List.pairwise_lt_range
          intro a b hab t ht u hu
          split at ht
          · split at hu
            · cases ht; cases hu
              rw [List.cons_lt_cons_iff]
              refine .inr ⟨rfl, ?_⟩
              rw [List.cons_lt_cons_iff]
              exact .inl (by omega)
            · cases hu
          · cases ht
        rw [e1, add_lst (m_ref hf2) rfl (by rw [List.length_map, List.length_map]; unfold LIM; omega), ← List.map_append]
        simp [-Prod.exists, -List.map_append]
        refine (hI _ _ _).mpr ⟨fs ++ new, _, junk' ++ [_], _, _, _, _, _, _, rfl, by rw [hG2, List.append_assoc], by simp, ?_, hilt, ?_, fun t => ?_⟩
        · rw [List.length_append]; omega
        · rw [List.pairwise_append]
          refine ⟨hasc, hna, fun a ha b hb => ?_⟩
          obtain ⟨one, two, h1, _, rfl, _⟩ := (hm a).mp ha
          obtain ⟨two', _, rfl, _⟩ := (hnm b).mp hb
          rw [List.cons_lt_cons_iff]
          exact .inl (by omega)
        · rw [List.mem_append, hm t, hnm t]
          constructor
          · rintro (⟨one, two, h1, h⟩ | ⟨two, h2, h3, h4⟩)
            · exact ⟨one, two, ⟨h1.1, by omega⟩, h⟩
            · exact ⟨i, two, ⟨by omega, by omega⟩, h2, h3, (hq two).mp h4⟩
          · rintro ⟨one, two, h1, h2, h3, h4⟩
            by_cases h5 : one < i
            · exact .inl ⟨one, two, ⟨h1.1, h5⟩, h2, h3, h4⟩
            · have : one = i := by omega
              subst this
              exact .inr ⟨two, h2, h3, (hq two).mpr h4⟩
  · obtain ⟨fs, f, junk, x4, x5, x6, x7, x8, x9, rfl, hG, hf, hfl, hi, hasc, hm⟩ := (hI _ _ _).mp h
    have e1 : seqR .tuple (.val (.ref f)) G1 = okV (.tup (fs.map tiD)) G1 := by
      simp only [seqR, hf]
      rfl
    simp [e1, -Prod.exists]
    rw [hG, gc_id (by rw [D.low]; exact low_tids _)]
    refine ⟨rfl, fs, rfl, hasc, fun t => ?_⟩
    rw [hm t]
    constructor
    · rintro ⟨one, two, _, _, rfl, s, hs, h1, a, ha, h0, h2⟩
      exact ⟨s, hs, a, ha, by omega, by rw [h1, h2]⟩
    · rintro ⟨s, hs, a, ha, h0, rfl⟩
      have hr := ((ok.nx s hs).2 a ha).resolve_left h0
      have hp := ok.pl s hs
      have hp2 := ok.pl _ (stg_mem hr.1 hr.2)
      exact ⟨s.1, (stg st a).1, ⟨hp.1, by simpa using hp.2⟩, ⟨hp2.1, hp2.2⟩, rfl, s, hs, rfl, a, ha, hr.1, rfl⟩
theorem app_lst {n : Nat} {G : Hpp} {ds : List D} {v : D} {Q : R → Hpp → Prop} (h : G[n]? = some (.lst ds)) (hl : ds.length < LIM) : (meth1R .append (.val (.ref n)) (.val v) G).wp Q = Q (.val .non) (G.set n (.lst (ds ++ [v]))) := by
  simp only [meth1R, h]
  rw [if_pos hl]
  rfl
theorem lpasses_wp (hS : T "_law_passes" = some d__law_passes) (ok : Hok seats st) :
    (callF T Γ (d + 1) "_law_passes" [hD seats st] G).wp fun v G1 => G1 = G ∧ ∃ l : List (List Int), v = .tup (l.map tiD) ∧ l.Pairwise (· < ·) ∧ ∀ t, t ∈ l ↔ ∃ s ∈ st, ∃ a ∈ s.2, a ≠ -1 ∧ ∃ q, Beh st a q ∧ t = [s.1, (stg st a).1, q] := by
  refine call_eq hS rfl ?_
  have hl30 := ok.lst
  simp [d__law_passes, hD, ix_tup, setSlots, toWalk, -Prod.exists]
  obtain ⟨I, hI⟩ : ∃ I : Nat → Env → Hpp → Prop, ∀ i ρ G1, I i ρ G1 ↔ ∃ (ks : List (List Int)) (x3 x4 x5 x6 : Option D), ρ = [some (hD seats st), some (.tup (st.map stD)), some (.ref G.length), x3, x4, x5, x6] ∧ G1 = G ++ [.lst (ks.map tiD)] ∧ ks.Nodup ∧ ks.length ≤ 10000 * i ∧ i ≤ st.length ∧ ∀ t, t ∈ ks ↔ ∃ s ∈ st.take i, ∃ a ∈ s.2, 0 ≤ a ∧ ∃ b ∈ (stg st a).2, 0 ≤ b ∧ t = [s.1, (stg st a).1, (stg st b).1] := ⟨_, fun _ _ _ => Iff.rfl⟩
  refine loop_at (ds := st.map stD) I ((hI _ _ _).mpr ⟨[], _, _, _, _, rfl, rfl, List.nodup_nil, by simp, Nat.zero_le _, by simp⟩) (fun _ _ _ _ => its_fix) (fun i e ρ G1 he h => ?_) (fun ρ G1 h => ?_)
  · obtain ⟨ks, x3, x4, x5, x6, rfl, hG, nd, hl, hi, hm⟩ := (hI _ _ _).mp h
    rw [List.getElem?_map] at he
    cases hs : st[i]? with
    | none => rw [hs] at he; cases he
    | some s => ?_
    rw [hs] at he
    cases he
    have hlt := (List.getElem?_eq_some_iff.mp hs).1
    have hsm := List.mem_of_getElem? hs
    have hnx := ok.nx s hsm
    have et : st.take (i + 1) = st.take i ++ [s] := by rw [List.take_add_one, hs]; rfl
    simp [bindTg, setSlots, stD, toWalk, -Prod.exists]
    obtain ⟨J, hJ⟩ : ∃ J : Nat → Env → Hpp → Prop, ∀ j ρ G2, J j ρ G2 ↔ ∃ (ks' : List (List Int)) (x y : Option D), ρ = [some (hD seats st), some (.tup (st.map stD)), some (.ref G.length), some (.int s.1), some (.tup (s.2.map .int)), x, y] ∧ G2 = G ++ [.lst (ks'.map tiD)] ∧ ks'.Nodup ∧ ks'.length ≤ 10000 * i + 100 * j ∧ j ≤ s.2.length ∧ ∀ t, t ∈ ks' ↔ t ∈ ks ∨ ∃ a ∈ s.2.take j, 0 ≤ a ∧ ∃ b ∈ (stg st a).2, 0 ≤ b ∧ t = [s.1, (stg st a).1, (stg st b).1] := ⟨_, fun _ _ _ => Iff.rfl⟩
    refine loop_at (ds := s.2.map .int) J ((hJ _ _ _).mpr ⟨ks, _, _, rfl, hG, nd, by omega, Nat.zero_le _, by simp⟩) (fun _ _ _ _ => its_fix) (fun j e ρ G2 he h => ?_) (fun ρ G2 h => ?_)
    · obtain ⟨ks', x, y, rfl, hG2, nd', hl', hj, hm'⟩ := (hJ _ _ _).mp h
      rw [List.getElem?_map] at he
      obtain ⟨a, ha, rfl⟩ := Option.map_eq_some_iff.mp he
      have hjlt := (List.getElem?_eq_some_iff.mp ha).1
      have el : s.2.take (j + 1) = s.2.take j ++ [a] := by rw [List.take_add_one, ha]; rfl
      simp [bindTg, -Prod.exists]
      by_cases hn : 0 ≤ a
      · have hr := (hnx.2 a (List.mem_of_getElem? ha)).resolve_left (by omega)
        have hax := ok.nx _ (stg_mem hr.1 hr.2)
        rw [if_pos hn]
        simp [ix_tup, st_at hr.1 hr.2, stD, toWalk, -Prod.exists]
        obtain ⟨L, hL⟩ : ∃ L : Nat → Env → Hpp → Prop, ∀ k ρ G3, L k ρ G3 ↔ ∃ (ks2 : List (List Int)) (z : Option D), ρ = [some (hD seats st), some (.tup (st.map stD)), some (.ref G.length), some (.int s.1), some (.tup (s.2.map .int)), some (.int a), z] ∧ G3 = G ++ [.lst (ks2.map tiD)] ∧ ks2.Nodup ∧ ks2.length ≤ 10000 * i + 100 * j + k ∧ k ≤ (stg st a).2.length ∧ ∀ t, t ∈ ks2 ↔ t ∈ ks' ∨ ∃ b ∈ (stg st a).2.take k, 0 ≤ b ∧ t = [s.1, (stg st a).1, (stg st b).1] := ⟨_, fun _ _ _ => Iff.rfl⟩
        refine loop_at (ds := (stg st a).2.map .int) L ((hL _ _ _).mpr ⟨ks', _, rfl, hG2, nd', by omega, Nat.zero_le _, by simp⟩) (fun _ _ _ _ => its_fix) (fun k e ρ G3 he h => ?_) (fun ρ G3 h => ?_)
        · obtain ⟨ks2, z, rfl, hG3, nd2, hl2, hk, hm2⟩ := (hL _ _ _).mp h
          rw [List.getElem?_map] at he
          obtain ⟨b, hb, rfl⟩ := Option.map_eq_some_iff.mp he
          have hklt := (List.getElem?_eq_some_iff.mp hb).1
          have el2 : (stg st a).2.take (k + 1) = (stg st a).2.take k ++ [b] := by rw [List.take_add_one, hb]; rfl
          have hd : G3[G.length]? = some (.lst (ks2.map tiD)) := by rw [hG3]; simp
          simp [bindTg, -Prod.exists]
          by_cases hb0 : 0 ≤ b
          · have hrb := (hax.2 b (List.mem_of_getElem? hb)).resolve_left (by omega)
            have ek : (D.tup [.int s.1, .int (stg st a).1, .int (stg st b).1]) = tiD [s.1, (stg st a).1, (stg st b).1] := rfl
            rw [if_pos hb0]
            simp [ix_tup, st_at hr.1 hr.2, st_at hrb.1 hrb.2, stD, ek, in_tiDs hd, -Prod.exists]
            by_cases hin : [s.1, (stg st a).1, (stg st b).1] ∈ ks2
            · rw [if_pos hin]
              refine (hL _ _ _).mpr ⟨ks2, _, rfl, hG3, nd2, by omega, hklt, fun t => ?_⟩
              rw [hm2 t, el2]
              constructor
              · rintro (h | ⟨c, hc, h⟩)
                · exact .inl h
                · exact .inr ⟨c, List.mem_append_left _ hc, h⟩
              · rintro (h | ⟨c, hc, h0, h⟩)
                · exact .inl h
                · rcases List.mem_append.mp hc with hc | hc
                  · exact .inr ⟨c, hc, h0, h⟩
                  · rw [List.mem_singleton] at hc
                    subst hc
                    rw [h]
                    exact (hm2 _).mp hin
            · rw [if_neg hin]
              simp [app_lst hd (by rw [List.length_map]; unfold LIM; omega), m_ref hd, -Prod.exists, -List.map_append]
              refine (hL _ _ _).mpr ⟨ks2 ++ [[s.1, (stg st a).1, (stg st b).1]], _, rfl, by rw [hG3, set_mid, List.map_append]; rfl, ?_, by rw [List.length_append]; simp; omega, hklt, fun t => ?_⟩
              · rw [List.nodup_append]
                exact ⟨nd2, by simp, fun u hu v hv => by simp at hv; subst hv; exact fun e => hin (e ▸ hu)⟩
              · rw [List.mem_append, hm2 t, el2, List.mem_singleton]
                constructor
                · rintro ((h | ⟨c, hc, h⟩) | h)
                  · exact .inl h
                  · exact .inr ⟨c, List.mem_append_left _ hc, h⟩
                  · exact .inr ⟨b, List.mem_append_right _ (List.mem_singleton.mpr rfl), hb0, h⟩
                · rintro (h | ⟨c, hc, h0, h⟩)
                  · exact .inl (.inl h)
                  · rcases List.mem_append.mp hc with hc | hc
                    · exact .inl (.inr ⟨c, hc, h0, h⟩)
                    · rw [List.mem_singleton] at hc
                      subst hc
                      exact .inr h
          · rw [if_neg hb0]
            refine (hL _ _ _).mpr ⟨ks2, _, rfl, hG3, nd2, by omega, hklt, fun t => ?_⟩
            rw [hm2 t, el2]
            constructor
            · rintro (h | ⟨c, hc, h⟩)
              · exact .inl h
              · exact .inr ⟨c, List.mem_append_left _ hc, h⟩
            · rintro (h | ⟨c, hc, h0, h⟩)
              · exact .inl h
              · rcases List.mem_append.mp hc with hc | hc
                · exact .inr ⟨c, hc, h0, h⟩
                · rw [List.mem_singleton] at hc
                  subst hc
                  exact absurd h0 hb0
        · obtain ⟨ks2, z, rfl, hG3, nd2, hl2, hk, hm2⟩ := (hL _ _ _).mp h
          refine (hJ _ _ _).mpr ⟨ks2, _, _, rfl, hG3, nd2, by rw [List.length_map] at hl2; have := hax.1; omega, hjlt, fun t => ?_⟩
          rw [hm2 t, hm' t, el, List.length_map, List.take_length]
          constructor
          · rintro ((h | ⟨c, hc, h⟩) | ⟨c, hc, h⟩)
            · exact .inl h
            · exact .inr ⟨c, List.mem_append_left _ hc, h⟩
            · exact .inr ⟨a, List.mem_append_right _ (List.mem_singleton.mpr rfl), hn, c, hc, h⟩
          · rintro (hh | ⟨c, hc, h0, e', he', hh⟩)
            · exact .inl (.inl hh)
            · rcases List.mem_append.mp hc with hc | hc
              · exact .inl (.inr ⟨c, hc, h0, e', he', hh⟩)
              · rw [List.mem_singleton] at hc
                subst hc
                exact .inr ⟨e', he', hh⟩
      · rw [if_neg hn]
        simp [toWalk, -Prod.exists]
        refine loop_at (ds := []) (fun _ ρ G4 => G4 = G2 ∧ ∃ z, ρ = [some (hD seats st), some (.tup (st.map stD)), some (.ref G.length), some (.int s.1), some (.tup (s.2.map .int)), some (.int a), z]) ⟨rfl, _, rfl⟩ (fun _ _ _ _ => its_fix) (fun j e ρ G3 he _ => by simp at he) (fun ρ G4 ⟨h4, z, hρ⟩ => ?_)
        subst h4 hρ
        refine (hJ _ _ _).mpr ⟨ks', _, _, rfl, hG2, nd', by omega, hjlt, fun t => ?_⟩
        rw [hm' t, el]
        constructor
        · rintro (h | ⟨c, hc, h⟩)
          · exact .inl h
          · exact .inr ⟨c, List.mem_append_left _ hc, h⟩
        · rintro (h | ⟨c, hc, h0, h⟩)
          · exact .inl h
          · rcases List.mem_append.mp hc with hc | hc
            · exact .inr ⟨c, hc, h0, h⟩
            · rw [List.mem_singleton] at hc
              subst hc
              exact absurd h0 hn
    · obtain ⟨ks', x, y, rfl, hG2, nd', hl', hj, hm'⟩ := (hJ _ _ _).mp h
      refine (hI _ _ _).mpr ⟨ks', _, _, _, _, rfl, hG2, nd', by rw [List.length_map] at hl'; have := hnx.1; omega, hlt, fun t => ?_⟩
      rw [hm' t, hm t, et, List.length_map, List.take_length]
      constructor
      · rintro (⟨p, hp, h⟩ | h)
        · exact ⟨p, List.mem_append_left _ hp, h⟩
        · exact ⟨s, List.mem_append_right _ (List.mem_singleton.mpr rfl), h⟩
      · rintro ⟨p, hp, hh⟩
        rcases List.mem_append.mp hp with hp | hp
        · exact .inl ⟨p, hp, hh⟩
        · rw [List.mem_singleton] at hp
          subst hp
          exact .inr hh
  · obtain ⟨ks, x3, x4, x5, x6, rfl, hG, nd, hl, hi, hm⟩ := (hI _ _ _).mp h
    have hd : G1[G.length]? = some (.lst (ks.map tiD)) := by rw [hG]; simp
    have hne : ∀ k ∈ ks, k ≠ [] := fun k hk => by
      obtain ⟨s, _, a, _, _, b, _, _, rfl⟩ := (hm k).mp hk
      simp
    have e1 : seqR .sorted (.val (.ref G.length)) G1 = .ok (.newL ((ks.mergeSort leT).map tiD)) G1 := by
      simp only [seqR, hd]
      exact sort_tI hne
    have e2 : seqR .tuple (.newL ((ks.mergeSort leT).map tiD)) G1 = okV (.tup ((ks.mergeSort leT).map tiD)) G1 := rfl
    simp [e1, e2, -Prod.exists]
    rw [hG, gc_id (by rw [D.low]; exact low_tids _)]
    refine ⟨rfl, _, rfl, asc_tI nd, fun t => ?_⟩
    rw [mem_sort, hm t, List.length_map, List.take_length]
    constructor
    · rintro ⟨s, hs, a, ha, h0, b, hb, hb0, h⟩
      exact ⟨s, hs, a, ha, by omega, _, ⟨b, hb, by omega, rfl⟩, h⟩
    · rintro ⟨s, hs, a, ha, h0, q, ⟨b, hb, hb0, rfl⟩, h⟩
      have hr := ((ok.nx s hs).2 a ha).resolve_left h0
      have hrb := ((ok.nx _ (stg_mem hr.1 hr.2)).2 b hb).resolve_left hb0
      exact ⟨s, hs, a, ha, hr.1, b, hb, hrb.1, h⟩
end
end LK

set_option Elab.async false
set_option linter.all false
set_option autoImplicit false
set_option maxRecDepth 100000
set_option maxHeartbeats 2000000
/-! K02Near: _law_near. -/
namespace LK
open PySem
def d__law_near : FnDef :=
  ⟨2, 10, .cons (.setT [2, 3] (.var 1))
    (.cons (.set 4 (.comp (.var 5) (.one 5) (.rng1 (.len (.var 3))) (.cons (.cmp .gt (.len (.idx (.idx (.var 3) (.var 5)) (.int 1))) (.int 1)) (.nil))))
    (.cons (.ite (.cmp .eq (.var 4) (.lst (.nil)))
    (.cons (.ret (.var 1))
    (.nil))
    (.nil))
    (.cons (.set 5 (.call "_law_pick" (.cons (.var 0) (.cons (.var 4) (.nil))) (.nil) []))
    (.cons (.setT [6, 7] (.idx (.var 3) (.var 5)))
    (.cons (.set 8 (.call "_law_pick" (.cons (.var 0) (.cons (.var 7) (.nil))) (.nil) []))
    (.cons (.ret (.tup (.cons (.var 2) (.cons (.bin .add (.bin .add (.slc (.var 3) (.non) (.var 5)) (.tup (.cons (.tup (.cons (.var 6) (.cons (.seq .tuple (.comp (.var 9) (.one 9) (.ex (.var 7)) (.cons (.cmp .ne (.var 9) (.var 8)) (.nil)))) (.nil)))) (.nil)))) (.slc (.var 3) (.bin .add (.var 5) (.int 1)) (.non))) (.nil)))))
    (.nil)))))))⟩
/-- the state of a law's helper: the box at b, behind it what is laid -/
def St (G : Hpp) (b : Nat) (x y : Int) (junk : Hpp) : Hpp := G.set b (.lst [.int x, .int y]) ++ junk
section
variable {T : Tab} {Γ : Str → Option D} {d : Nat} {G : Hpp} {b : Nat} {x y x' y' : Int} {junk : Hpp} {seats : List Int} {st : List Stg}
theorem st_get (hb : b < G.length) : (St G b x y junk)[b]? = some (.lst [.int x, .int y]) := by
  unfold St
  rw [List.getElem?_append_left (by rw [List.length_set]; exact hb), List.getElem?_set_self hb]
theorem st_set (hb : b < G.length) : (St G b x y junk).set b (.lst [.int x', .int y']) = St G b x' y' junk := by
  unfold St
  rw [List.set_append_left _ _ (by rw [List.length_set]; exact hb), List.set_set]
theorem st_app {c : Cell} : St G b x y junk ++ [c] = St G b x y (junk ++ [c]) := by unfold St; rw [List.append_assoc]
theorem st_len : (St G b x y junk).length = G.length + junk.length := by unfold St; simp
theorem st_junk {k : Nat} : (St G b x y junk)[G.length + k]? = junk[k]? := by
  unfold St
  rw [List.getElem?_append_right (by simp)]
  simp
theorem st_0 (hb : G[b]? = some (.lst [.int x, .int y])) : G = St G b x y [] := by
  unfold St
  rw [List.append_nil]
  have hl := (List.getElem?_eq_some_iff.mp hb)
  exact (by rw [← hl.2]; exact (List.set_getElem_self hl.1).symm)
theorem st_gc {v : D} (h : v.low G.length = true) : gc G v (St G b x y junk) = .ok v (G.set b (.lst [.int x, .int y])) := gc_set h rfl
theorem st_setJ {k : Nat} {c : Cell} (hb : b < G.length) : (St G b x y junk).set (G.length + k) c = St G b x y (junk.set k c) := by
  unfold St
  rw [List.set_append_right _ _ (by simp)]
  simp
theorem takeS (hT : T "_law_take" = some d__law_take) (hb : b < G.length) {many : Int} (h0 : 0 < many) (h1 : many < 1073741824) :
    (callF T Γ (d + 1) "_law_take" [.ref b, .int many] (St G b x y junk)).wp fun r G1 => ∃ i x' y' : Int, r = .int i ∧ 0 ≤ i ∧ i < many ∧ G1 = St G b x' y' junk :=
  wp_imp (take_wp hT (st_get hb) h0 h1) fun r G1 ⟨i, x', y', e1, e2, e3, e4⟩ => ⟨i, x', y', e1, e2, e3, by rw [e4, st_set hb]⟩
theorem pickS (hT : T "_law_take" = some d__law_take) (hP : T "_law_pick" = some d__law_pick) (hb : b < G.length) {k : Nat} {l : List Int} (hj : junk[k]? = some (.lst (l.map .int))) (h0 : l ≠ []) (h1 : l.length < 1073741824) :
    (callF T Γ (d + 2) "_law_pick" [.ref b, .ref (G.length + k)] (St G b x y junk)).wp fun v G1 => ∃ i x' y' : Int, v = .int i ∧ i ∈ l ∧ G1 = St G b x' y' junk :=
  wp_imp (pick_wp (ds := l.map .int) hT hP (st_get hb) (.inr ⟨G.length + k, by omega, rfl, by rw [st_junk]; exact hj⟩) (by simpa using h0) (by rw [List.length_map]; exact h1) (fun e he => by
    obtain ⟨i, _, rfl⟩ := List.mem_map.mp he
    rfl)) fun v G1 ⟨x', y', hv, e⟩ => by
      obtain ⟨i, hi, rfl⟩ := List.mem_map.mp hv
      exact ⟨i, x', y', rfl, hi, by rw [e, st_set hb]⟩
theorem pickT (hT : T "_law_take" = some d__law_take) (hP : T "_law_pick" = some d__law_pick) (hb : b < G.length) {l : List Int} (h0 : l ≠ []) (h1 : l.length < 1073741824) :
    (callF T Γ (d + 2) "_law_pick" [.ref b, .tup (l.map .int)] (St G b x y junk)).wp fun v G1 => ∃ i x' y' : Int, v = .int i ∧ i ∈ l ∧ G1 = St G b x' y' junk :=
  wp_imp (pick_wp (ds := l.map .int) hT hP (st_get hb) (.inl rfl) (by simpa using h0) (by rw [List.length_map]; exact h1) (fun e he => by
    obtain ⟨i, _, rfl⟩ := List.mem_map.mp he
    rfl)) fun v G1 ⟨x', y', hv, e⟩ => by
      obtain ⟨i, hi, rfl⟩ := List.mem_map.mp hv
      exact ⟨i, x', y', rfl, hi, by rw [e, st_set hb]⟩
theorem eq_nil {n : Nat} {G : Hpp} {l : List Int} (h : G[n]? = some (.lst (l.map .int))) : cmpR .eq (.val (.ref n)) (.newL []) G = some (decide (l = [])) := by
  show eqR (.val (.ref n)) (.newL []) G = _
  simp only [eqR, viewOf, lstOf, lstM, h, Option.map_some]
  rw [if_pos (by rw [all_int]; rfl)]
  have := eqvL_ints l []
  rw [List.map_nil] at this
  rw [this]
theorem low_hD {n : Nat} : D.low n (hD seats st) = true := by
  have h : ∀ l : List Stg, D.lowL n (l.map stD) = true := by
    intro l
    induction l with
    | nil => rfl
    | cons s l ih => rw [List.map_cons, D.lowL, ih]; unfold stD; rw [D.low, D.lowL, D.lowL, D.lowL, D.low, D.low, low_ints]; rfl
  unfold hD
  rw [D.low, D.lowL, D.lowL, D.lowL, D.low, D.low, low_ints, h]
  rfl
theorem cut_lo {ds : List D} {n : Nat} (h : n ≤ ds.length) : cutD ds none (some (n : Int)) = ds.take n := by
  unfold cutD
  rw [HT.sIx_none, HT.sIx_nat, List.drop_zero, Nat.sub_zero, Nat.min_eq_left h]
theorem cut_hi {ds : List D} {n : Nat} (h : n ≤ ds.length) : cutD ds (some (n : Int)) none = ds.drop n := by
  unfold cutD
  rw [HT.sIx_none, HT.sIx_nat, Nat.min_eq_left h, List.take_of_length_le (by rw [List.length_drop]; exact Nat.le_refl _)]
theorem cut_tup {ds : List D} {l h : Option Int} {Q : R → Hpp → Prop} : (cutR (.val (.tup ds)) l h G).wp Q = Q (.val (.tup (cutD ds l h))) G := rfl
theorem add_tup {xs ys : List D} {Q : R → Hpp → Prop} (h : xs.length + ys.length ≤ LIM) : (binR .add (.val (.tup xs)) (.val (.tup ys)) G).wp Q = Q (.val (.tup (xs ++ ys))) G := by
  show (if xs.length + ys.length ≤ LIM then okV (.tup (xs ++ ys)) G else .bad).wp Q = _
  rw [if_pos h]
  rfl
/-- one stage's nexts are others -/
theorem hok_put (ok : Hok seats st) {q : Nat} {s : Stg} (hq : st[q]? = some s) {l : List Int} (hl : ∀ a ∈ l, a ∈ s.2) (hn : l.length ≤ 100) : Hok seats (st.take q ++ [(s.1, l)] ++ st.drop (q + 1)) := by
  have hlt := (List.getElem?_eq_some_iff.mp hq).1
  have hlen : (st.take q ++ [(s.1, l)] ++ st.drop (q + 1)).length = st.length := by simp; omega
  have hs := List.mem_of_getElem? hq
  refine ⟨ok.ls, by rw [hlen]; exact ok.lst, fun t ht => ?_, fun t ht => ?_⟩
  · simp only [List.mem_append, List.mem_singleton] at ht
    rcases ht with (ht | ht) | ht
    · exact ok.pl t (List.mem_of_mem_take ht)
    · subst ht; exact ok.pl s hs
    · exact ok.pl t (List.mem_of_mem_drop ht)
  · rw [hlen]
    simp only [List.mem_append, List.mem_singleton] at ht
    rcases ht with (ht | ht) | ht
    · exact ok.nx t (List.mem_of_mem_take ht)
    · subst ht
      exact ⟨hn, fun a ha => (ok.nx s hs).2 a (hl a ha)⟩
    · exact ok.nx t (List.mem_of_mem_drop ht)
def nearO (st : List Stg) : D → Option D
  | .int q => if 1 < (stg st q).2.length then some (.int q) else none
  | _ => none
def goneO (g : Int) : D → Option D
  | .int a => if a = g then none else some (.int a)
  | _ => none
theorem near_wp (hT : T "_law_take" = some d__law_take) (hP : T "_law_pick" = some d__law_pick) (hN : T "_law_near" = some d__law_near) (hb : G[b]? = some (.lst [.int x, .int y])) (ok : Hok seats st) :
    (callF T Γ (d + 3) "_law_near" [.ref b, hD seats st] G).wp fun v G1 => ∃ (x' y' : Int) (st' : List Stg), v = hD seats st' ∧ Hok seats st' ∧ G1 = G.set b (.lst [.int x', .int y']) := by
  refine call_eq hN rfl ?_
  have hbl : b < G.length := (List.getElem?_eq_some_iff.mp hb).1
  have hl30 := ok.lst
  have e0 := st_0 hb
  simp [d__law_near, setSlots, hD, lenR, seqOf, -Prod.exists]
  refine ⟨by unfold LIM; omega, ?_⟩
  refine comp_pure (ds := (List.range st.length).map fun (k : Nat) => D.int (0 + k)) (nearO st) its_rng (by simp; unfold LIM; omega) (fun d hd => ?_) ?_
  · obtain ⟨k, hk, rfl⟩ := List.mem_map.mp hd
    rw [List.mem_range] at hk
    refine wp_res ?_
    have ea : L2.atI (st.map stD) ((k : Nat) : Int) = some (stD (stg st k)) := st_at (by omega) (by omega)
    simp [compV, bindTg, ix_tup, ea, stD, lenR, seqOf, nearO]
    by_cases h : 1 < (stg st (k : Int)).2.length
    · simp [h, show (1 : Int) < ((stg st (k : Int)).2.length : Int) by omega]
    · simp [h, show ¬ (1 : Int) < ((stg st (k : Int)).2.length : Int) by omega]
      omega
  · have e1 : ((List.range st.length).map fun (k : Nat) => D.int (0 + k)).filterMap (nearO st) = ((List.range st.length).filterMap fun (k : Nat) => if 1 < (stg st (k : Int)).2.length then some (k : Int) else none).map .int :=
      filt_map (fun k => by
        show nearO st (.int (0 + k)) = _
        unfold nearO
        rw [Int.zero_add]
        dsimp only
        split <;> rfl) _
    rw [e1]
    generalize hsp : ((List.range st.length).filterMap fun (k : Nat) => if 1 < (stg st (k : Int)).2.length then some (k : Int) else none) = sp
    have hspm : ∀ q ∈ sp, 0 ≤ q ∧ q < st.length ∧ 1 < (stg st q).2.length := fun q hq => by
      rw [← hsp, List.mem_filterMap] at hq
      obtain ⟨k, hk, h⟩ := hq
      rw [List.mem_range] at hk
      split at h
      · cases h; exact ⟨by omega, by omega, by assumption⟩
      · cases h
    have hspl : sp.length ≤ 1000 := by
      rw [← hsp]
      exact Nat.le_trans (List.length_filterMap_le _ _) (by simp; omega)
    have hA : (G ++ [Cell.lst (sp.map .int)])[G.length]? = some (.lst (sp.map .int)) := by simp
    simp [eq_nil hA, -Prod.exists]
    by_cases hz : sp = []
    · rw [if_pos hz]
      have eg := gc_id (G := G) (v := hD seats st) low_hD (ex := [Cell.lst (sp.map .int)])
      unfold hD at eg
      rw [eg]
      exact ⟨x, y, st, rfl, ok, by
        unfold St at e0
        rw [List.append_nil] at e0
        exact e0⟩
    · rw [if_neg hz]
      rw [show G ++ [Cell.lst (sp.map .int)] = St G b x y [Cell.lst (sp.map .int)] by
        unfold St at e0 ⊢
        rw [List.append_nil] at e0
        rw [← e0]]
      refine wp_imp (pickS (k := 0) hT hP hbl rfl hz (by omega)) fun v G1 ⟨q, x1, y1, hv, hq, hG1⟩ => ?_
      subst hv hG1
      obtain ⟨q0, q1, q2⟩ := hspm q hq
      obtain ⟨n, rfl⟩ := Int.eq_ofNat_of_zero_le q0
      have hnlt : n < st.length := by omega
      have hnx := (ok.nx _ (stg_mem q0 q1))
      have hne : (stg st (n : Int)).2 ≠ [] := fun e => by rw [e] at q2; simp at q2
      have hsn : st[n]? = some (stg st (n : Int)) := by simp [stg, List.getElem?_eq_getElem hnlt]
      simp [ix_tup, st_at q0 q1, stD, setSlots, -Prod.exists]
      refine wp_imp (pickT hT hP hbl hne (by omega)) fun v G1 ⟨g, x2, y2, hv, hg, hG1⟩ => ?_
      subst hv hG1
      simp [cut_tup, toWalk, -Prod.exists]
      refine comp_pure (ds := (stg st (n : Int)).2.map .int) (goneO g) its_fix (by rw [List.length_map]; unfold LIM; omega) (fun d hd => ?_) ?_
      · obtain ⟨a, ha, rfl⟩ := List.mem_map.mp hd
        refine wp_res ?_
        by_cases h : a = g
        · simp [compV, bindTg, goneO, h]
        · simp [compV, bindTg, goneO, h]
      · have e2 : ((stg st (n : Int)).2.map D.int).filterMap (goneO g) = ((stg st (n : Int)).2.filterMap fun a => if a = g then none else some a).map .int :=
          filt_map (fun a => by
            unfold goneO
            dsimp only
            split <;> rfl) _
        rw [e2]
        generalize hnew : ((stg st (n : Int)).2.filterMap fun a => if a = g then none else some a) = new
        have hnm : ∀ a ∈ new, a ∈ (stg st (n : Int)).2 := fun a ha => by
          rw [← hnew, List.mem_filterMap] at ha
          obtain ⟨c, hc, h⟩ := ha
          split at h
          · cases h
          · cases h; exact hc
        have hnl : new.length ≤ 100 := by
          rw [← hnew]
          exact Nat.le_trans (List.length_filterMap_le _ _) hnx.1
        have c1 : cutD (st.map stD) none (some (n : Int)) = (st.take n).map stD := by rw [cut_lo (by rw [List.length_map]; omega), List.map_take]
        have c2 : cutD (st.map stD) (some ((n : Int) + 1)) none = (st.drop (n + 1)).map stD := by
          have := cut_hi (ds := st.map stD) (n := n + 1) (by rw [List.length_map]; omega)
          rw [List.map_drop, ← this]
          rfl
        have e3 : ∀ G2 : Hpp, seqR .tuple (.newL (new.map D.int)) G2 = okV (.tup (new.map .int)) G2 := fun _ => rfl
        have f1 : ((st.take n).map stD).length + 1 ≤ LIM := by rw [List.length_map, List.length_take]; unfold LIM; omega
        have f2 : (((st.take n).map stD) ++ [D.tup [.int (stg st (n : Int)).1, .tup (new.map .int)]]).length + ((st.drop (n + 1)).map stD).length ≤ LIM := by simp; unfold LIM; omega
        simp only [e3, wp_okV, td_val, c1, c2, cut_tup]
        rw [add_tup (by simpa using f1)]
        simp [cut_tup, c2, -Prod.exists]
        rw [add_tup (by simpa using f2)]
        simp only [td_val]
        have ev : (D.tup [.tup (seats.map .int), .tup (((st.take n).map stD) ++ [D.tup [.int (stg st (n : Int)).1, .tup (new.map .int)]] ++ (st.drop (n + 1)).map stD)]) = hD seats (st.take n ++ [((stg st (n : Int)).1, new)] ++ st.drop (n + 1)) := by
          unfold hD
          rw [List.map_append, List.map_append]
          rfl
        rw [List.map_take, List.map_drop] at ev
        rw [ev, st_gc low_hD]
        exact ⟨x2, y2, _, rfl, hok_put ok hsn hnm hnl, rfl⟩
end
end LK

set_option Elab.async false
set_option linter.all false
set_option autoImplicit false
set_option maxRecDepth 100000
set_option maxHeartbeats 4000000
/-! K02House: _law_house. -/
namespace LK
open PySem
def d__law_house : FnDef :=
  ⟨1, 14, .cons (.set 1 (.call "_law_pick" (.cons (.var 0) (.cons (.lst (.cons (.bin .add (.int 1) (.call "_law_take" (.cons (.var 0) (.cons (.int 4) (.nil))) (.nil) [])) (.cons (.bin .add (.int 2) (.call "_law_take" (.cons (.var 0) (.cons (.int 3) (.nil))) (.nil) [])) (.cons (.bin .add (.int 1) (.call "_law_take" (.cons (.var 0) (.cons (.int 10) (.nil))) (.nil) [])) (.cons (.int 10) (.nil)))))) (.nil))) (.nil) []))
    (.cons (.setT [2, 3] (.tup (.cons (.call "_law_pick" (.cons (.var 0) (.cons (.lst (.cons (.int 1) (.cons (.int 2) (.cons (.int 6) (.nil))))) (.nil))) (.nil) []) (.cons (.cmp .eq (.call "_law_take" (.cons (.var 0) (.cons (.int 4) (.nil))) (.nil) []) (.int 0)) (.nil)))))
    (.cons (.set 4 (.seq .tuple (.comp (.bin .add (.int 1) (.call "_law_take" (.cons (.var 0) (.cons (.var 2) (.nil))) (.nil) [])) (.one 5) (.rng1 (.var 1)) (.nil))))
    (.cons (.set 6 (.call "_law_pick" (.cons (.var 0) (.cons (.lst (.cons (.bin .add (.int 1) (.call "_law_take" (.cons (.var 0) (.cons (.int 6) (.nil))) (.nil) [])) (.cons (.var 1) (.cons (.bin .add (.int 1) (.call "_law_take" (.cons (.var 0) (.cons (.int 24) (.nil))) (.nil) [])) (.cons (.int 24) (.nil)))))) (.nil))) (.nil) []))
    (.cons (.set 7 (.comp (.call "_law_take" (.cons (.var 0) (.cons (.var 1) (.nil))) (.nil) []) (.one 8) (.rng1 (.var 6)) (.nil)))
    (.cons (.setT [9, 10] (.tup (.cons (.lst (.nil)) (.cons (.bin .add (.int 1) (.call "_law_take" (.cons (.var 0) (.cons (.int 4) (.nil))) (.nil) [])) (.nil)))))
    (.cons (.for_ (.one 8) (.rng1 (.var 6))
    (.cons (.set 11 (.comp (.var 12) (.one 12) (.rng1 (.var 6)) (.cons (.and (.cmp .ne (.idx (.var 7) (.var 12)) (.idx (.var 7) (.var 8))) (.or (.not (.var 3)) (.cmp .gt (.var 12) (.var 8)))) (.nil))))
    (.cons (.set 13 (.comp (.var 12) (.one 12) (.ex (.var 11)) (.cons (.cmp .lt (.call "_law_take" (.cons (.var 0) (.cons (.int 5) (.nil))) (.nil) []) (.var 10)) (.nil))))
    (.cons (.ite (.and (.cmp .eq (.var 13) (.lst (.nil))) (.cmp .ne (.var 11) (.lst (.nil))))
    (.cons (.set 13 (.lst (.cons (.call "_law_pick" (.cons (.var 0) (.cons (.var 11) (.nil))) (.nil) []) (.nil))))
    (.nil))
    (.nil))
    (.cons (.ite (.or (.cmp .eq (.var 13) (.lst (.nil))) (.cmp .eq (.call "_law_take" (.cons (.var 0) (.cons (.int 4) (.nil))) (.nil) []) (.int 0)))
    (.cons (.set 13 (.bin .add (.lst (.cons (.bin .sub (.int 0) (.int 1)) (.nil))) (.var 13)))
    (.nil))
    (.nil))
    (.cons (.expr (.meth1 .append (.var 9) (.tup (.cons (.idx (.var 7) (.var 8)) (.cons (.seq .tuple (.var 13)) (.nil))))))
    (.nil)))))))
    (.cons (.ret (.tup (.cons (.var 4) (.cons (.seq .tuple (.var 9)) (.nil)))))
    (.nil))))))))⟩
section
variable {T : Tab} {Γ : Str → Option D} {d : Nat} {G : Hpp} {b : Nat} {x y x' y' : Int} {junk : Hpp}
theorem st_append {ex : Hpp} : St G b x y junk ++ ex = St G b x y (junk ++ ex) := by unfold St; rw [List.append_assoc]
theorem keepJ {k : Nat} {c : Cell} {ex : Hpp} (h : junk[k]? = some c) : (junk ++ ex)[k]? = some c := by rw [List.getElem?_append_left (List.getElem?_eq_some_iff.mp h).1]; exact h
theorem f_seq {C : CallF} {Γ : Str → Option D} {nx bk ct : Env → Hpp → Prop} {rt : D → Hpp → Prop} {ρ : Env} {G : Hpp} {s : S} {r : Ss} (Mid : Env → Hpp → Prop) (h1 : (exS C Γ s ρ G).wp Mid bk ct rt) (h2 : ∀ ρ G, Mid ρ G → (exSs C Γ r ρ G).wp nx bk ct rt) : (exSs C Γ (.cons s r) ρ G).wp nx bk ct rt := by
  rw [f_cons]
  exact f_imp h1 h2 (fun _ _ h => h) (fun _ _ h => h) fun _ _ h => h
theorem comp_takes {f : D → Hpp → Res (Option D)} {n : Nat} {P : Int → Prop} {Q : List D → Hpp → Prop} {H : Hpp} (hf : ∀ (k : Nat) (x y : Int), (f (.int (0 + k)) (St G b x y junk)).wp fun o G1 => ∃ i x' y' : Int, o = some (.int i) ∧ P i ∧ G1 = St G b x' y' junk) (hn : n ≤ 1000) (he : ∀ (l : List Int) (x y : Int), l.length = n → (∀ a ∈ l, P a) → Q (l.map .int) (St G b x y junk)) :
    (compF f (.rng 0 n) ((Walk.rng 0 n).size H + 1) 0 [] (St G b x y junk)).wp Q := by
  show (compF f (.rng 0 n) ((Walk.rng 0 n).size (St G b x y junk) + 1) 0 [] (St G b x y junk)).wp Q
  refine comp_at (ds := (List.range n).map fun (k : Nat) => D.int (0 + k)) (fun i acc G1 => ∃ (l : List Int) (x y : Int), acc = l.map .int ∧ l.length = i ∧ (∀ a ∈ l, P a) ∧ G1 = St G b x y junk) ⟨[], x, y, rfl, rfl, by simp, rfl⟩ (by simp; unfold LIM; omega) (fun _ _ _ _ => its_rng) (fun i e acc G1 he' ⟨l, x1, y1, ha, hl, hP, hG⟩ => ?_) (fun acc G1 ⟨l, x1, y1, ha, hl, hP, hG⟩ => ?_)
  · subst ha hG
    rw [List.getElem?_map] at he'
    obtain ⟨k, hk, rfl⟩ := Option.map_eq_some_iff.mp he'
    refine wp_imp (hf k x1 y1) fun o G1 ⟨j, x2, y2, ho, hj, hG1⟩ => ?_
    subst ho hG1
    refine ⟨l ++ [j], x2, y2, by rw [List.map_append]; rfl, by simp [hl], fun a ha => ?_, rfl⟩
    rcases List.mem_append.mp ha with h | h
    · exact hP a h
    · rw [List.mem_singleton] at h; subst h; exact hj
  · subst ha hG
    exact he l x1 y1 (by simpa using hl) hP
theorem ne_nil' {n : Nat} {G : Hpp} {l : List Int} (h : G[n]? = some (.lst (l.map .int))) : cmpR .ne (.val (.ref n)) (.newL []) G = some (!decide (l = [])) := by
  have q := eq_nil h
  show (eqR (.val (.ref n)) (.newL []) G).map (!·) = _
  rw [show eqR (.val (.ref n)) (.newL []) G = some (decide (l = [])) from q]
  rfl
theorem house_wp (hT : T "_law_take" = some d__law_take) (hP : T "_law_pick" = some d__law_pick) (hH : T "_law_house" = some d__law_house) (hb : G[b]? = some (.lst [.int x, .int y])) :
    (callF T Γ (d + 3) "_law_house" [.ref b] G).wp fun v G1 => ∃ (x' y' : Int) (seats : List Int) (st : List Stg), v = hD seats st ∧ Hok seats st ∧ G1 = G.set b (.lst [.int x', .int y']) := by
  refine call_eq hH rfl ?_
  have hbl : b < G.length := (List.getElem?_eq_some_iff.mp hb).1
  have e0 := st_0 hb
  have post : ∀ (seats : List Int) (st : List Stg) (x y : Int) (junk : Hpp), Hok seats st → (gc G (hD seats st) (St G b x y junk)).wp fun v G1 => ∃ (x' y' : Int) (seats : List Int) (st : List Stg), v = hD seats st ∧ Hok seats st ∧ G1 = G.set b (.lst [.int x', .int y']) := fun seats st x y junk ok => by
    rw [st_gc low_hD]
    exact ⟨x, y, seats, st, rfl, ok, rfl⟩
  generalize hpost : (fun (v : D) (G1 : Hpp) => ∃ (x' y' : Int) (seats : List Int) (st : List Stg), v = hD seats st ∧ Hok seats st ∧ G1 = G.set b (.lst [.int x', .int y'])) = Post at post ⊢
  rw [show (exSs (callF T Γ (d + 2)) Γ d__law_house.body ([D.ref b].map some ++ List.replicate (d__law_house.ns - d__law_house.np) none) G) = (exSs (callF T Γ (d + 2)) Γ d__law_house.body ([D.ref b].map some ++ List.replicate (d__law_house.ns - d__law_house.np) none) (St G b x y [])) by rw [← e0]]
  simp [d__law_house, -Prod.exists]
  -- places
  refine wp_imp (takeS hT hbl (by omega) (by omega)) fun r G1 ⟨i1, x1, y1, hr, h10, h11, hG⟩ => ?_
  subst hr hG
  simp [-Prod.exists]
  refine wp_imp (takeS hT hbl (by omega) (by omega)) fun r G1 ⟨i2, x2, y2, hr, h20, h21, hG⟩ => ?_
  subst hr hG
  simp [-Prod.exists]
  refine wp_imp (takeS hT hbl (by omega) (by omega)) fun r G1 ⟨i3, x3, y3, hr, h30, h31, hG⟩ => ?_
  subst hr hG
  simp [st_app, st_len, -Prod.exists]
  refine wp_imp (pickS (k := 0) (l := [1 + i1, 2 + i2, 1 + i3, 10]) hT hP hbl rfl (by simp) (by simp)) fun r G1 ⟨places, x4, y4, hr, hp, hG⟩ => ?_
  subst hr hG
  have hpl : 1 ≤ places ∧ places ≤ 10 := by simp at hp; omega
  simp [st_app, st_len, -Prod.exists]
  refine wp_imp (pickS (k := 1) (l := [1, 2, 6]) hT hP hbl rfl (by simp) (by simp)) fun r G1 ⟨most, x5, y5, hr, hm, hG⟩ => ?_
  subst hr hG
  have hmo : 1 ≤ most ∧ most ≤ 6 := by simp at hm; omega
  refine wp_imp (takeS hT hbl (by omega) (by omega)) fun r G1 ⟨i4, x6, y6, hr, h40, h41, hG⟩ => ?_
  subst hr hG
  simp [setSlots, -Prod.exists]
  refine ⟨by unfold LIM; omega, ?_⟩
  refine comp_takes (n := places.toNat) (P := fun _ => True) (fun k x y => ?_) (by omega) (fun seats x7 y7 hsl _ => ?_)
  · simp [compV, bindTg, -Prod.exists]
    refine wp_imp (takeS hT hbl (by omega) (by omega)) fun r G1 ⟨i, x', y', hr, _, _, hG⟩ => ?_
    subst hr hG
    simp
    exact ⟨_, _, rfl⟩
  have e3 : ∀ G2 : Hpp, seqR .tuple (.newL (seats.map D.int)) G2 = okV (.tup (seats.map .int)) G2 := fun _ => rfl
  simp [e3, -Prod.exists]
  refine wp_imp (takeS hT hbl (by omega) (by omega)) fun r G1 ⟨i5, x8, y8, hr, h50, h51, hG⟩ => ?_
  subst hr hG
  simp [-Prod.exists]
  refine wp_imp (takeS hT hbl (by omega) (by omega)) fun r G1 ⟨i6, x9, y9, hr, h60, h61, hG⟩ => ?_
  subst hr hG
  simp [st_app, st_len, -Prod.exists]
  refine wp_imp (pickS (k := 2) (l := [1 + i5, places, 1 + i6, 24]) hT hP hbl rfl (by simp) (by simp)) fun r G1 ⟨many, x10, y10, hr, hm2, hG⟩ => ?_
  subst hr hG
  have hmany : 1 ≤ many ∧ many ≤ 24 := by simp at hm2; omega
  simp [-Prod.exists]
  refine ⟨by unfold LIM; omega, ?_⟩
  refine comp_takes (n := many.toNat) (P := fun a => 0 ≤ a ∧ a < places) (fun k x y => ?_) (by omega) (fun spots x11 y11 hspl hsp => ?_)
  · simp [compV, bindTg, -Prod.exists]
    refine wp_imp (takeS hT hbl (by omega) (by omega)) fun r G1 ⟨i, x', y', hr, h0, h1, hG⟩ => ?_
    subst hr hG
    simp
    exact ⟨⟨h0, h1⟩, _, _, rfl⟩
  simp [st_append, st_len, -Prod.exists]
  refine wp_imp (takeS hT hbl (by omega) (by omega)) fun r G1 ⟨i7, x12, y12, hr, h70, h71, hG⟩ => ?_
  subst hr hG
  simp [-Prod.exists]
  refine ⟨by unfold LIM; omega, ?_⟩
  generalize hj0 : [Cell.lst [D.int (1 + i1), D.int (2 + i2), D.int (1 + i3), D.int 10], Cell.lst [D.int 1, D.int 2, D.int 6], Cell.lst [D.int (1 + i5), D.int places, D.int (1 + i6), D.int 24], Cell.lst (spots.map .int), Cell.lst []] = junk0
  have hj3 : junk0[3]? = some (.lst (spots.map .int)) := by rw [← hj0]; rfl
  have hj4 : junk0[4]? = some (.lst (([] : List Stg).map stD)) := by rw [← hj0]; rfl
  clear hj0
  generalize (decide (i4 = 0)) = ends
  generalize (1 + i7) = rate
  obtain ⟨I, hI⟩ : ∃ I : Nat → Env → Hpp → Prop, ∀ i ρ H, I i ρ H ↔ ∃ (sts : List Stg) (x y : Int) (junk : Hpp) (x5 x8 x11 x12 x13 : Option D), ρ = [some (.ref b), some (.int places), some (.int most), some (.bl ends), some (.tup (seats.map .int)), x5, some (.int many), some (.ref (G.length + 3)), x8, some (.ref (G.length + 4)), some (.int rate), x11, x12, x13] ∧ H = St G b x y junk ∧ junk[3]? = some (.lst (spots.map .int)) ∧ junk[4]? = some (.lst (sts.map stD)) ∧ sts.length = i ∧ ∀ s ∈ sts, (0 ≤ s.1 ∧ s.1 < places) ∧ s.2.length ≤ 100 ∧ ∀ a ∈ s.2, a = -1 ∨ 0 ≤ a ∧ a < many := ⟨_, fun _ _ _ => Iff.rfl⟩
  refine loop_at (ds := (List.range many.toNat).map fun (k : Nat) => D.int (0 + k)) I ((hI _ _ _).mpr ⟨[], _, _, junk0, _, _, _, _, _, rfl, rfl, hj3, hj4, rfl, by simp⟩) (fun _ _ _ _ => its_rng) (fun i e ρ H he h => ?_) (fun ρ H h => ?_)
  · obtain ⟨sts, x, y, junk, x5, x8, x11, x12, x13, rfl, rfl, hq3, hq4, hsl', hst⟩ := (hI _ _ _).mp h
    have hilt : i < many.toNat := by
      have := (List.getElem?_eq_some_iff.mp he).1
      simpa using this
    have ee : e = .int i := by
      rw [List.getElem?_map, List.getElem?_range hilt] at he
      simp at he
      exact he.symm
    subst ee
    have hsv : ∀ (k : Int), 0 ≤ k → k < many → L2.atI (spots.map D.int) k = some (.int (spots.getD k.toNat 0)) := fun k k0 k1 => by
      obtain ⟨n, rfl⟩ := Int.eq_ofNat_of_zero_le k0
      have hn : n < spots.length := by omega
      rw [at_nat, List.getElem?_map, List.getElem?_eq_getElem hn]
      simp [List.getElem?_eq_getElem hn]
    have hspm : ∀ (k : Int), 0 ≤ k → k < many → 0 ≤ spots.getD k.toNat 0 ∧ spots.getD k.toNat 0 < places := fun k k0 k1 => by
      have hn : k.toNat < spots.length := by omega
      have := hsp spots[k.toNat] (List.getElem_mem hn)
      rw [List.getD_eq_getElem?_getD, List.getElem?_eq_getElem hn]
      exact this
    have ixs : ∀ (x y : Int) (junk : Hpp) (k : Int) (Q : R → Hpp → Prop), junk[3]? = some (.lst (spots.map .int)) → 0 ≤ k → k < many → (idxR (.val (.ref (G.length + 3))) (.val (.int k)) (St G b x y junk)).wp Q = Q (.val (.int (spots.getD k.toNat 0))) (St G b x y junk) := fun x y junk k Q hj k0 k1 => by
      rw [ix_lst (ds := spots.map .int) (by rw [st_junk]; exact hj), hsv k k0 k1]
    show (exSs _ _ _ _ _).wp _ _ _ _
    -- others
    obtain ⟨M1, hM1⟩ : ∃ M1 : Env → Hpp → Prop, ∀ ρ H, M1 ρ H ↔ ∃ (x y : Int) (junk : Hpp) (k : Nat) (others : List Int) (x12 x13 : Option D), ρ = [some (.ref b), some (.int places), some (.int most), some (.bl ends), some (.tup (seats.map .int)), x5, some (.int many), some (.ref (G.length + 3)), some (.int i), some (.ref (G.length + 4)), some (.int rate), some (.ref (G.length + k)), x12, x13] ∧ H = St G b x y junk ∧ junk[3]? = some (.lst (spots.map .int)) ∧ junk[4]? = some (.lst (sts.map stD)) ∧ junk[k]? = some (.lst (others.map .int)) ∧ others.length ≤ 30 ∧ ∀ a ∈ others, 0 ≤ a ∧ a < many := ⟨_, fun _ _ => Iff.rfl⟩
    refine f_seq M1 ?_ fun ρ H h => ?_
    · simp [-Prod.exists]
      refine ⟨by unfold LIM; omega, ?_⟩
      refine comp_at (ds := (List.range many.toNat).map fun (k : Nat) => D.int (0 + k)) (fun i acc H => H = St G b x y junk ∧ ∃ l : List Int, acc = l.map .int ∧ l.length ≤ i ∧ ∀ a ∈ l, 0 ≤ a ∧ a < many) ⟨rfl, [], rfl, Nat.le_refl _, by simp⟩ (by simp; unfold LIM; omega) (fun _ _ _ _ => its_rng) (fun j e acc H he ⟨hH, l, ha, hl, hr⟩ => ?_) (fun acc H ⟨hH, l, ha, hl, hr⟩ => ?_)
      · subst hH ha
        rw [List.getElem?_map] at he
        obtain ⟨k, hk, rfl⟩ := Option.map_eq_some_iff.mp he
        have hk2 := List.mem_range.mp (List.mem_of_getElem? hk)
        have ik := fun Q => ixs x y junk k Q hq3 (by omega) (by omega)
        have ii := fun Q => ixs x y junk i Q hq3 (by omega) (by omega)
        have yes : ∃ l' : List Int, l.map D.int ++ [D.int k] = l'.map .int ∧ l'.length ≤ j + 1 ∧ ∀ a ∈ l', 0 ≤ a ∧ a < many := ⟨l ++ [(k : Int)], by rw [List.map_append]; rfl, by simp; omega, fun a ha => by
          rcases List.mem_append.mp ha with h | h
          · exact hr a h
          · rw [List.mem_singleton] at h; subst h; omega⟩
        have no : ∃ l' : List Int, l.map D.int = l'.map .int ∧ l'.length ≤ j + 1 ∧ ∀ a ∈ l', 0 ≤ a ∧ a < many := ⟨l, rfl, by omega, hr⟩
        simp only [compV, bindTg, wp_bind, wp_noEx, w_if', w_if0, w_and', w_or', w_not', w_cmp, w_idx, w_var, List.set_cons_succ, List.set_cons_zero, List.getElem?_cons_succ, List.getElem?_cons_zero, Int.zero_add, ik, ii, c_ne, c_gt, bif_val, wp_ok, td_val]
        repeat' split
        all_goals try simp only [wp_bind, wp_noEx, wp_ok, w_var, td_val, List.set_cons_succ, List.set_cons_zero, List.getElem?_cons_succ, List.getElem?_cons_zero]
        all_goals first
          | exact ⟨rfl, yes⟩
          | exact ⟨rfl, no⟩
          | exact ⟨trivial, yes⟩
          | exact ⟨trivial, no⟩
          | (rename_i hc; exact absurd hc (by simp))
      · subst hH ha
        rw [List.length_map, List.length_range] at hl
        rw [st_len, st_append]
        exact (hM1 _ _).mpr ⟨x, y, junk ++ [_], junk.length, l, _, _, rfl, rfl, keepJ hq3, keepJ hq4, by simp, by omega, hr⟩
    · obtain ⟨x, y, junk, k, others, x12, x13, rfl, rfl, hq3, hq4, hqk, hol, hom⟩ := (hM1 _ _).mp h
      clear h hM1 M1
      obtain ⟨M2, hM2⟩ : ∃ M2 : Env → Hpp → Prop, ∀ ρ H, M2 ρ H ↔ ∃ (x y : Int) (junk : Hpp) (k2 : Nat) (l : List Int) (x12 : Option D), ρ = [some (.ref b), some (.int places), some (.int most), some (.bl ends), some (.tup (seats.map .int)), x5, some (.int many), some (.ref (G.length + 3)), some (.int i), some (.ref (G.length + 4)), some (.int rate), some (.ref (G.length + k)), x12, some (.ref (G.length + k2))] ∧ H = St G b x y junk ∧ junk[3]? = some (.lst (spots.map .int)) ∧ junk[4]? = some (.lst (sts.map stD)) ∧ junk[k]? = some (.lst (others.map .int)) ∧ junk[k2]? = some (.lst (l.map .int)) ∧ l.length ≤ 30 ∧ ∀ a ∈ l, 0 ≤ a ∧ a < many := ⟨_, fun _ _ => Iff.rfl⟩
      refine f_seq M2 ?_ fun ρ H h => ?_
      · have etw : toWalk (.val (.ref (G.length + k))) (St G b x y junk) = .ok (.cell (G.length + k)) (St G b x y junk) := by
          have : (St G b x y junk)[G.length + k]? = some (.lst (others.map .int)) := by rw [st_junk]; exact hqk
          simp only [toWalk, this]
        simp [etw, -Prod.exists]
        refine comp_at (ds := others.map .int) (fun i acc H => ∃ (x y : Int) (l : List Int), H = St G b x y junk ∧ acc = l.map .int ∧ l.length ≤ i ∧ ∀ a ∈ l, 0 ≤ a ∧ a < many) ⟨x, y, [], rfl, rfl, Nat.le_refl _, by simp⟩ (by rw [List.length_map]; unfold LIM; omega) (fun _ _ _ ⟨_, _, _, h, _⟩ => by rw [h]; exact its_cell (by rw [st_junk]; exact hqk)) (fun j e acc H he ⟨x, y, l, hH, ha, hl, hr⟩ => ?_) (fun acc H ⟨x, y, l, hH, ha, hl, hr⟩ => ?_)
        · subst hH ha
          rw [List.getElem?_map] at he
          obtain ⟨a, hk, rfl⟩ := Option.map_eq_some_iff.mp he
          have hao := hom a (List.mem_of_getElem? hk)
          simp [compV, bindTg, -Prod.exists]
          refine wp_imp (takeS hT hbl (by omega) (by omega)) fun r G1 ⟨z, x', y', hr', h0, h1, hG⟩ => ?_
          subst hr' hG
          simp [-Prod.exists]
          split
          · exact ⟨⟨x', y', rfl⟩, l ++ [a], by rw [List.map_append]; rfl, by simp; omega, fun c hc => by
              rcases List.mem_append.mp hc with h | h
              · exact hr c h
              · rw [List.mem_singleton] at h; subst h; exact hao⟩
          · exact ⟨⟨x', y', rfl⟩, l, rfl, by omega, hr⟩
        · subst hH ha
          rw [List.length_map] at hl
          rw [st_len, st_append]
          exact (hM2 _ _).mpr ⟨x, y, junk ++ [_], junk.length, l, _, rfl, rfl, keepJ hq3, keepJ hq4, keepJ hqk, by simp, by omega, hr⟩
      · obtain ⟨x, y, junk, k2, l, x12, rfl, rfl, hq3, hq4, hqk, hqk2, hll, hlm⟩ := (hM2 _ _).mp h
        clear h hM2 M2
        have hgk : ∀ (x y : Int), (St G b x y junk)[G.length + k]? = some (.lst (others.map .int)) := fun x y => by rw [st_junk]; exact hqk
        have hgk2 : ∀ (x y : Int), (St G b x y junk)[G.length + k2]? = some (.lst (l.map .int)) := fun x y => by rw [st_junk]; exact hqk2
        obtain ⟨M3, hM3⟩ : ∃ M3 : Env → Hpp → Prop, ∀ ρ H, M3 ρ H ↔ ∃ (x y : Int) (junk : Hpp) (k2 : Nat) (l : List Int) (x11 x12 : Option D), ρ = [some (.ref b), some (.int places), some (.int most), some (.bl ends), some (.tup (seats.map .int)), x5, some (.int many), some (.ref (G.length + 3)), some (.int i), some (.ref (G.length + 4)), some (.int rate), x11, x12, some (.ref (G.length + k2))] ∧ H = St G b x y junk ∧ junk[3]? = some (.lst (spots.map .int)) ∧ junk[4]? = some (.lst (sts.map stD)) ∧ junk[k2]? = some (.lst (l.map .int)) ∧ l.length ≤ 31 ∧ ∀ a ∈ l, a = -1 ∨ 0 ≤ a ∧ a < many := ⟨_, fun _ _ => Iff.rfl⟩
        refine f_seq M3 ?_ fun ρ H h => ?_
        · have same : ∀ x y, M3 [some (.ref b), some (.int places), some (.int most), some (.bl ends), some (.tup (seats.map .int)), x5, some (.int many), some (.ref (G.length + 3)), some (.int i), some (.ref (G.length + 4)), some (.int rate), some (.ref (G.length + k)), x12, some (.ref (G.length + k2))] (St G b x y junk) := fun x y => (hM3 _ _).mpr ⟨x, y, junk, k2, l, _, _, rfl, rfl, hq3, hq4, hqk2, by omega, fun a ha => .inr (hlm a ha)⟩
          simp [eq_nil (hgk2 _ _), ne_nil' (hgk _ _), -Prod.exists]
          by_cases h1 : l = []
          · rw [if_pos h1]
            by_cases h2 : others = []
            · rw [if_pos h2]; exact same x y
            · rw [if_neg h2]
              refine wp_imp (pickS hT hP hbl hqk h2 (by omega)) fun v G1 ⟨z, x', y', hv, hz, hG⟩ => ?_
              subst hv hG
              simp [st_append, st_len, -Prod.exists]
              exact (hM3 _ _).mpr ⟨x', y', junk ++ [_], junk.length, [z], _, _, rfl, rfl, keepJ hq3, keepJ hq4, by simp, by simp, fun a ha => by
                rw [List.mem_singleton] at ha
                subst ha
                exact .inr (hom _ hz)⟩
          · rw [if_neg h1]; exact same x y
        · obtain ⟨x, y, junk, k2, l, x11, x12, rfl, rfl, hq3, hq4, hqk2, hll, hlm⟩ := (hM3 _ _).mp h
          clear h hM3 M3 hgk hgk2
          have hgk2 : ∀ (x y : Int), (St G b x y junk)[G.length + k2]? = some (.lst (l.map .int)) := fun x y => by rw [st_junk]; exact hqk2
          obtain ⟨M4, hM4⟩ : ∃ M4 : Env → Hpp → Prop, ∀ ρ H, M4 ρ H ↔ ∃ (x y : Int) (junk : Hpp) (k2 : Nat) (l : List Int) (x11 x12 : Option D), ρ = [some (.ref b), some (.int places), some (.int most), some (.bl ends), some (.tup (seats.map .int)), x5, some (.int many), some (.ref (G.length + 3)), some (.int i), some (.ref (G.length + 4)), some (.int rate), x11, x12, some (.ref (G.length + k2))] ∧ H = St G b x y junk ∧ junk[3]? = some (.lst (spots.map .int)) ∧ junk[4]? = some (.lst (sts.map stD)) ∧ junk[k2]? = some (.lst (l.map .int)) ∧ l.length ≤ 32 ∧ ∀ a ∈ l, a = -1 ∨ 0 ≤ a ∧ a < many := ⟨_, fun _ _ => Iff.rfl⟩
          refine f_seq M4 ?_ fun ρ H h => ?_
          · have same : ∀ x y, M4 [some (.ref b), some (.int places), some (.int most), some (.bl ends), some (.tup (seats.map .int)), x5, some (.int many), some (.ref (G.length + 3)), some (.int i), some (.ref (G.length + 4)), some (.int rate), x11, x12, some (.ref (G.length + k2))] (St G b x y junk) := fun x y => (hM4 _ _).mpr ⟨x, y, junk, k2, l, _, _, rfl, rfl, hq3, hq4, hqk2, by omega, hlm⟩
            have addm : ∀ (x y : Int), (binR .add (.newL [D.int (-1)]) (.val (.ref (G.length + k2))) (St G b x y junk)).wp fun x_1 G1 => (toD x_1 G1).wp fun d G1 => M4 [some (.ref b), some (.int places), some (.int most), some (.bl ends), some (.tup (seats.map .int)), x5, some (.int many), some (.ref (G.length + 3)), some (.int i), some (.ref (G.length + 4)), some (.int rate), x11, x12, some d] G1 := fun x y => by
              rw [add_lst (r := .newL [D.int (-1)]) rfl (m_ref (hgk2 x y)) (by simp; unfold LIM; omega), td_newL, st_len, st_append]
              exact (hM4 _ _).mpr ⟨x, y, junk ++ [_], junk.length, -1 :: l, _, _, rfl, rfl, keepJ hq3, keepJ hq4, by simp, by simp; omega, fun a ha => by
                rcases List.mem_cons.mp ha with h | h
                · exact .inl h
                · exact hlm a h⟩
            simp [eq_nil (hgk2 _ _), -Prod.exists]
            by_cases h1 : l = []
            · rw [if_pos h1]
              exact addm x y
            · rw [if_neg h1]
              refine wp_imp (takeS hT hbl (by omega) (by omega)) fun r G1 ⟨z, x', y', hr', h0, h1, hG⟩ => ?_
              subst hr' hG
              simp [-Prod.exists]
              split
              · exact addm x' y'
              · exact same x' y'
          · obtain ⟨x, y, junk, k2, l, x11, x12, rfl, rfl, hq3, hq4, hqk2, hll, hlm⟩ := (hM4 _ _).mp h
            clear h hM4 M4
            have hgk2 : (St G b x y junk)[G.length + k2]? = some (.lst (l.map .int)) := by rw [st_junk]; exact hqk2
            have hg4 : (St G b x y junk)[G.length + 4]? = some (.lst (sts.map stD)) := by rw [st_junk]; exact hq4
            have ii := fun Q => ixs x y junk i Q hq3 (by omega) (by omega)
            have et : seqR .tuple (.val (.ref (G.length + k2))) (St G b x y junk) = okV (.tup (l.map .int)) (St G b x y junk) := by
              simp only [seqR, hgk2]
              rfl
            have hkn : k2 ≠ 4 ∨ True := .inr trivial
            simp [m_ref hg4, ii, et, app_lst hg4 (by rw [List.length_map]; unfold LIM; omega), -Prod.exists, -List.map_append]
            refine (hI _ _ _).mpr ⟨sts ++ [(spots.getD i 0, l)], x, y, junk.set 4 _, _, _, _, _, _, rfl, st_setJ hbl, ?_, ?_, by simp [hsl'], fun s hs => ?_⟩
            · rw [List.getElem?_set_ne (by omega)]; exact hq3
            · rw [List.getElem?_set_self (List.getElem?_eq_some_iff.mp hq4).1, List.map_append]
              simp [stD]
            · rcases List.mem_append.mp hs with h | h
              · exact hst s h
              · rw [List.mem_singleton] at h
                subst h
                have := hspm i (by omega) (by omega)
                exact ⟨by simpa using this, by show l.length ≤ 100; omega, hlm⟩
  · obtain ⟨sts, x, y, junk, x5, x8, x11, x12, x13, rfl, rfl, hq3, hq4, hsl', hst⟩ := (hI _ _ _).mp h
    have hg4 : (St G b x y junk)[G.length + 4]? = some (.lst (sts.map stD)) := by rw [st_junk]; exact hq4
    have et : seqR .tuple (.val (.ref (G.length + 4))) (St G b x y junk) = okV (.tup (sts.map stD)) (St G b x y junk) := by
      simp only [seqR, hg4]
      rfl
    simp [et, -Prod.exists]
    rw [List.length_map, List.length_range] at hsl'
    exact post seats sts x y junk ⟨by omega, by omega, fun s hs => by
      have := (hst s hs).1
      exact ⟨this.1, by omega⟩, fun s hs => ⟨(hst s hs).2.1, fun a ha => by
      rcases (hst s hs).2.2 a ha with h | h
      · exact .inl h
      · exact .inr ⟨h.1, by omega⟩⟩⟩
end
end LK

set_option Elab.async false
set_option linter.all false
set_option autoImplicit false
set_option maxRecDepth 100000
namespace K02
open PySem PySem.Spec PyProof.Rows L2 LK
def topS (i : Nat) : Stmt := PySem.Challenge.pw_lookonce_k02_steps_and_passes.main.body.getD i (.Pass ⟨0, 0, 0, 0⟩)
abbrev f_places_behind : FD := ⟨"places_behind", topS 2, d_places_behind, ["house", "stage", "after"], ["house", "stage"]⟩
abbrev f_steps_of : FD := ⟨"steps_of", topS 3, d_steps_of, ["house", "found", "number", "stage", "two"], ["house"]⟩
abbrev f_passes_of : FD := ⟨"passes_of", topS 4, d_passes_of, ["house", "found", "place", "nexts", "after", "last"], ["house"]⟩
abbrev f__law_box : FD := ⟨"_law_box", topS 6, d__law_box, ["script", "k", "cell", "great"], ["script", "k"]⟩
abbrev f__law_take : FD := ⟨"_law_take", topS 7, d__law_take, ["box", "many", "digit", "raw"], ["box", "many"]⟩
abbrev f__law_pick : FD := ⟨"_law_pick", topS 8, d__law_pick, ["box", "some"], ["box", "some"]⟩
abbrev f__law_same : FD := ⟨"_law_same", topS 9, d__law_same, ["told", "due", "one", "other"], ["told", "due"]⟩
abbrev f__law_house : FD := ⟨"_law_house", topS 10, d__law_house, ["box", "places", "most", "ends", "seats", "place", "many", "spots", "stage", "stages", "rate", "others", "after", "some"], ["box"]⟩
abbrev f__law_steps : FD := ⟨"_law_steps", topS 11, d__law_steps, ["house", "seats", "stages", "found", "one", "goals", "place", "nexts", "after", "two"], ["house"]⟩
abbrev f__law_passes : FD := ⟨"_law_passes", topS 12, d__law_passes, ["house", "stages", "found", "place", "nexts", "after", "last"], ["house"]⟩
abbrev f__law_near : FD := ⟨"_law_near", topS 13, d__law_near, ["box", "house", "seats", "stages", "some", "spot", "place", "nexts", "gone", "after"], ["box", "house"]⟩
def d_law : FnDef :=
  ⟨1, 6, .cons (.set 1 (.tup (.cons (.tup (.cons (.int 1) (.cons (.int 1) (.cons (.int 1) (.nil))))) (.cons (.tup (.cons (.tup (.cons (.int 0) (.cons (.tup (.cons (.int 1) (.nil))) (.nil)))) (.cons (.tup (.cons (.int 1) (.cons (.tup (.cons (.int 4) (.nil))) (.nil)))) (.cons (.tup (.cons (.int 2) (.cons (.tup (.cons (.int 3) (.nil))) (.nil)))) (.cons (.tup (.cons (.int 1) (.cons (.tup (.cons (.bin .sub (.int 0) (.int 1)) (.nil))) (.nil)))) (.cons (.tup (.cons (.int 0) (.cons (.tup (.cons (.bin .sub (.int 0) (.int 1)) (.nil))) (.nil)))) (.nil))))))) (.nil)))))
    (.cons (.ite (.not (.call "_law_same" (.cons (.tup (.cons (.call "steps_of" (.cons (.var 1) (.nil)) (.nil) []) (.cons (.call "passes_of" (.cons (.var 1) (.nil)) (.nil) []) (.nil)))) (.cons (.tup (.cons (.tup (.cons (.tup (.cons (.int 0) (.cons (.int 1) (.nil)))) (.cons (.tup (.cons (.int 1) (.cons (.int 0) (.nil)))) (.cons (.tup (.cons (.int 2) (.cons (.int 1) (.nil)))) (.nil))))) (.cons (.tup (.cons (.tup (.cons (.int 0) (.cons (.int 1) (.cons (.int 0) (.nil))))) (.nil))) (.nil)))) (.nil))) (.nil) []))
    (.cons (.ret (.bl false))
    (.nil))
    (.nil))
    (.cons (.for_ (.one 2) (.rng1 (.max2 (.int 3) (.min2 (.len (.var 0)) (.int 8))))
    (.cons (.set 3 (.call "_law_box" (.cons (.var 0) (.cons (.var 2) (.nil))) (.nil) []))
    (.cons (.set 4 (.call "_law_house" (.cons (.var 3) (.nil)) (.nil) []))
    (.cons (.for_ (.one 5) (.rng1 (.int 3))
    (.cons (.ite (.not (.call "_law_same" (.cons (.tup (.cons (.call "steps_of" (.nil) (.cons (.var 4) (.nil)) []) (.cons (.call "passes_of" (.cons (.var 4) (.nil)) (.nil) []) (.nil)))) (.cons (.tup (.cons (.call "_law_steps" (.cons (.var 4) (.nil)) (.nil) []) (.cons (.call "_law_passes" (.cons (.var 4) (.nil)) (.nil) []) (.nil)))) (.nil))) (.nil) []))
    (.cons (.ret (.bl false))
    (.nil))
    (.nil))
    (.cons (.set 4 (.call "_law_near" (.cons (.var 3) (.cons (.var 4) (.nil))) (.nil) []))
    (.nil))))
    (.nil)))))
    (.cons (.ret (.bl true))
    (.nil))))⟩
abbrev f_law : FD := ⟨"law", topS 14, d_law, ["script", "typed", "k", "box", "house", "turn"], ["script"]⟩
def prog : List FD := [f_places_behind, f_steps_of, f_passes_of, f__law_box, f__law_take, f__law_pick, f__law_same, f__law_house, f__law_steps, f__law_passes, f__law_near, f_law]
def shp : List Sh := [⟨"_law_box", 2, [], []⟩, ⟨"_law_house", 1, [], []⟩, ⟨"_law_near", 2, [], []⟩, ⟨"_law_passes", 1, [], []⟩, ⟨"_law_pick", 2, [], []⟩, ⟨"_law_same", 2, [], []⟩, ⟨"_law_steps", 1, [], []⟩, ⟨"_law_take", 2, [], []⟩, ⟨"passes_of", 1, [], []⟩, ⟨"places_behind", 2, [], []⟩, ⟨"steps_of", 0, ["house"], []⟩, ⟨"steps_of", 1, [], []⟩]
def gls : List Str := ["OUT"]
def bls : List Str := ["abs", "bool", "enumerate", "int", "isinstance", "len", "list", "max", "min", "range", "sorted", "str", "tuple", "zip"]
def glo : Str → Option D := fun x =>
  if x = "OUT" then some (.int (-1))
  else none
theorem chk_all : (prog.all fun f => f.chk shp gls bls) = true := by decide +kernel
theorem nd_all : (prog.map (·.nm)).Nodup := by decide +kernel
theorem sh_all : ∀ sh ∈ shp, ∃ f ∈ prog, f.nm = sh.f ∧ sh.B f :=
  all_cons ⟨f__law_box, List.mem_iff_getElem?.mpr ⟨3, rfl⟩, rfl, rfl, rfl, fun _ _ _ _ _ _ us ws h1 h2 => match us, ws, h1, h2 with
    | [_, _], [], _, _ => rfl⟩ (
  all_cons ⟨f__law_house, List.mem_iff_getElem?.mpr ⟨7, rfl⟩, rfl, rfl, rfl, fun _ _ _ _ _ _ us ws h1 h2 => match us, ws, h1, h2 with
    | [_], [], _, _ => rfl⟩ (
  all_cons ⟨f__law_near, List.mem_iff_getElem?.mpr ⟨10, rfl⟩, rfl, rfl, rfl, fun _ _ _ _ _ _ us ws h1 h2 => match us, ws, h1, h2 with
    | [_, _], [], _, _ => rfl⟩ (
  all_cons ⟨f__law_passes, List.mem_iff_getElem?.mpr ⟨9, rfl⟩, rfl, rfl, rfl, fun _ _ _ _ _ _ us ws h1 h2 => match us, ws, h1, h2 with
    | [_], [], _, _ => rfl⟩ (
  all_cons ⟨f__law_pick, List.mem_iff_getElem?.mpr ⟨5, rfl⟩, rfl, rfl, rfl, fun _ _ _ _ _ _ us ws h1 h2 => match us, ws, h1, h2 with
    | [_, _], [], _, _ => rfl⟩ (
  all_cons ⟨f__law_same, List.mem_iff_getElem?.mpr ⟨6, rfl⟩, rfl, rfl, rfl, fun _ _ _ _ _ _ us ws h1 h2 => match us, ws, h1, h2 with
    | [_, _], [], _, _ => rfl⟩ (
  all_cons ⟨f__law_steps, List.mem_iff_getElem?.mpr ⟨8, rfl⟩, rfl, rfl, rfl, fun _ _ _ _ _ _ us ws h1 h2 => match us, ws, h1, h2 with
    | [_], [], _, _ => rfl⟩ (
  all_cons ⟨f__law_take, List.mem_iff_getElem?.mpr ⟨4, rfl⟩, rfl, rfl, rfl, fun _ _ _ _ _ _ us ws h1 h2 => match us, ws, h1, h2 with
    | [_, _], [], _, _ => rfl⟩ (
  all_cons ⟨f_passes_of, List.mem_iff_getElem?.mpr ⟨2, rfl⟩, rfl, rfl, rfl, fun _ _ _ _ _ _ us ws h1 h2 => match us, ws, h1, h2 with
    | [_], [], _, _ => rfl⟩ (
  all_cons ⟨f_places_behind, List.mem_iff_getElem?.mpr ⟨0, rfl⟩, rfl, rfl, rfl, fun _ _ _ _ _ _ us ws h1 h2 => match us, ws, h1, h2 with
    | [_, _], [], _, _ => rfl⟩ (
  all_cons ⟨f_steps_of, List.mem_iff_getElem?.mpr ⟨1, rfl⟩, rfl, rfl, rfl, fun _ _ _ _ _ _ us ws h1 h2 => match us, ws, h1, h2 with
    | [], [_], _, _ => rfl⟩ (
  all_cons ⟨f_steps_of, List.mem_iff_getElem?.mpr ⟨1, rfl⟩, rfl, rfl, rfl, fun _ _ _ _ _ _ us ws h1 h2 => match us, ws, h1, h2 with
    | [_], [], _, _ => rfl⟩ (
  all_nil))))))))))))
theorem ok_all {K : PySem.W.Frag} {h : Heap} {mg : Str → Option Value} (KX : K.In h) (G : h.Ns mainGlobals mg)
    (ha : ∀ f ∈ prog, FD.At K mg f) (hg : GlOk K mg glo gls) (hb : ∀ b ∈ bls, mg b = none) : AllOk K mg (tabOf prog) glo prog shp gls bls :=
  ⟨tab_of nd_all, List.all_eq_true.mp chk_all, ha, sh_all, hg, hb⟩
end K02

set_option Elab.async false
set_option linter.all false
set_option autoImplicit false
set_option maxRecDepth 100000
set_option maxHeartbeats 4000000
namespace K02
open PySem PySem.Spec PyProof.Rows LK
theorem dok_pair {l m : List (List Int)} : D.dok 3 (.tup [.tup (l.map tiD), .tup (m.map tiD)]) = true := by
  have h : ∀ l : List (List Int), (l.map tiD).all (D.dok 1) = true := fun l => all_tiD l
  simp only [D.dok, List.all_cons, List.all_nil, Bool.and_true, Bool.and_eq_true]
  refine ⟨?_, ?_⟩
  · rw [List.all_eq_true]
    intro x hx
    exact List.all_eq_true.mp (h l) x hx
  · rw [List.all_eq_true]
    intro x hx
    exact List.all_eq_true.mp (h m) x hx
section
variable {T : Tab} {Γ : Str → Option D} {d : Nat} {G : Hpp}
structure Tabs (T : Tab) (Γ : Str → Option D) : Prop where
  behind : T "places_behind" = some d_places_behind
  steps : T "steps_of" = some d_steps_of
  passes : T "passes_of" = some d_passes_of
  box : T "_law_box" = some d__law_box
  take : T "_law_take" = some d__law_take
  pick : T "_law_pick" = some d__law_pick
  same : T "_law_same" = some d__law_same
  house : T "_law_house" = some d__law_house
  lsteps : T "_law_steps" = some d__law_steps
  lpasses : T "_law_passes" = some d__law_passes
  near : T "_law_near" = some d__law_near
  law : T "law" = some d_law
  out : Γ "OUT" = some (.int (-1))
def tySt : List Stg := [(0, [1]), (1, [4]), (2, [3]), (1, [-1]), (0, [-1])]
theorem tyOk : Hok [1, 1, 1] tySt := ⟨by decide, by decide, by decide, by decide⟩
theorem gc_true {G G1 : Hpp} : (gc G (.bl true) G1).wp fun v _ => v = .bl true := by
  unfold gc
  split
  · rw [show (D.bl true).low G.length = true from rfl, if_pos rfl]
    rfl
  · rfl
theorem law_wp (t : Tabs T Γ) {ns : List Int} (hn : ns.length ≤ 63) :
    (callF T Γ (d + 7) "law" [.frl (ns.map .int)] G).wp fun v G1 => v = .bl true := by
  refine call_eq t.law rfl ?_
  have same : ∀ (l m : List (List Int)) (G : Hpp), callF T Γ (d + 6) "_law_same" [.tup [.tup (l.map tiD), .tup (m.map tiD)], .tup [.tup (l.map tiD), .tup (m.map tiD)]] G = .ok (.bl true) G := fun l m G => same_self t.same 3 _ (d + 6) G dok_pair (by omega)
  simp [d_law, -Prod.exists]
  show (callF T Γ (d + 6) "steps_of" [hD [1, 1, 1] tySt] G).wp _
  refine wp_imp (steps_wp (d := d + 4) t.behind t.steps t.out tyOk) fun v G1 ⟨hG, l, hv, ha, hm⟩ => ?_
  subst hG hv
  show (callF T Γ (d + 6) "passes_of" [hD [1, 1, 1] tySt] G1).wp _
  refine wp_imp (passes_wp (d := d + 4) t.behind t.passes t.out tyOk) fun v G2 ⟨hG, m, hv, ha2, hm2⟩ => ?_
  subst hG hv
  have el : l = [[0, 1], [1, 0], [2, 1]] := asc_eq asym_tI ha (by decide) fun t => (hm t).trans (by simp [tySt, stg])
  have em : m = [[0, 1, 0]] := asc_eq asym_tI ha2 (by decide) fun t => (hm2 t).trans (by simp [tySt, stg, Beh])
  subst el em
  refine Eq.mpr (eq_wp (same [[0, 1], [1, 0], [2, 1]] [[0, 1, 0]] G2)) ?_
  clear ha ha2 hm hm2
  simp [lenR, seqOf, lstOf, -Prod.exists]
  have hk : 3 ≤ (if 3 < if 8 < (ns.length : Int) then (8 : Int) else ns.length then if 8 < (ns.length : Int) then (8 : Int) else ns.length else 3) ∧ (if 3 < if 8 < (ns.length : Int) then (8 : Int) else ns.length then if 8 < (ns.length : Int) then (8 : Int) else ns.length else 3) ≤ 8 := by
    repeat' split
    all_goals omega
  generalize (if 3 < if 8 < (ns.length : Int) then (8 : Int) else ns.length then if 8 < (ns.length : Int) then (8 : Int) else ns.length else 3) = kk at hk ⊢
  refine ⟨by unfold LIM; omega, ?_⟩
  refine loop_at (ds := (List.range kk.toNat).map fun (k : Nat) => D.int (0 + k)) (fun _ ρ _ => ∃ x1 x2 x3 x4 x5, ρ = [some (.frl (ns.map .int)), x1, x2, x3, x4, x5]) ⟨_, _, _, _, _, rfl⟩ (fun _ _ _ _ => its_rng) (fun i e ρ G1 he ⟨x1, x2, x3, x4, x5, hρ⟩ => ?_) (fun ρ G1 _ => gc_true)
  subst hρ
  have hilt : i < kk.toNat := by
    have := (List.getElem?_eq_some_iff.mp he).1
    simpa using this
  have ee : e = .int i := by
    rw [List.getElem?_map, List.getElem?_range hilt] at he
    simp at he
    exact he.symm
  subst ee
  simp [bindTg, -Prod.exists]
  refine wp_imp (box_wp (d := d + 5) t.box (k := i) (by omega) hn) fun v G3 ⟨x, y, hv, hG⟩ => ?_
  subst hv hG
  have hb : (G1 ++ [Cell.lst [.int x, .int y]])[G1.length]? = some (.lst [.int x, .int y]) := by simp
  generalize hH : G1 ++ [Cell.lst [.int x, .int y]] = H at hb
  generalize hbn : G1.length = b at hb
  try simp [-Prod.exists]
  refine wp_imp (house_wp (d := d + 3) t.take t.pick t.house hb) fun v G3 ⟨x', y', seats, st, hv, ok, hG⟩ => ?_
  subst hv hG
  have hb' : (H.set b (.lst [.int x', .int y']))[b]? = some (.lst [.int x', .int y']) := List.getElem?_set_self (List.getElem?_eq_some_iff.mp hb).1
  try simp [-Prod.exists]
  refine ⟨by unfold LIM; omega, ?_⟩
  obtain ⟨J, hJ⟩ : ∃ J : Nat → LK.Env → Hpp → Prop, ∀ j ρ G, J j ρ G ↔ ∃ (seats : List Int) (st : List Stg) (x y : Int) (x5 : Option D), ρ = [some (.frl (ns.map .int)), x1, some (.int i), some (.ref b), some (hD seats st), x5] ∧ Hok seats st ∧ G[b]? = some (.lst [.int x, .int y]) := ⟨_, fun _ _ _ => Iff.rfl⟩
  refine loop_at (ds := (List.range 3).map fun (k : Nat) => D.int (0 + k)) J ((hJ _ _ _).mpr ⟨seats, st, x', y', _, rfl, ok, hb'⟩) (fun _ _ _ _ => its_rng) (fun j e ρ G3 he h => ?_) (fun ρ G3 h => ?_)
  · obtain ⟨seats, st, x, y, x5, rfl, ok, hb⟩ := (hJ _ _ _).mp h
    simp [bindTg, -Prod.exists]
    refine wp_imp (steps_wp (d := d + 4) t.behind t.steps t.out ok) fun v G4 ⟨hG, l, hv, ha, hm⟩ => ?_
    subst hG hv
    refine wp_imp (passes_wp (d := d + 4) t.behind t.passes t.out ok) fun v G5 ⟨hG, m, hv, ha2, hm2⟩ => ?_
    subst hG hv
    try simp [-Prod.exists]
    refine wp_imp (lsteps_wp (d := d + 5) t.lsteps ok) fun v G6 ⟨hG, l', hv, ha', hm'⟩ => ?_
    subst hG hv
    refine wp_imp (lpasses_wp (d := d + 5) t.lpasses ok) fun v G7 ⟨hG, m', hv, ha2', hm2'⟩ => ?_
    subst hG hv
    have el : l' = l := asc_eq asym_tI ha' ha fun t => (hm' t).trans (hm t).symm
    have em : m' = m := asc_eq asym_tI ha2' ha2 fun t => (hm2' t).trans (hm2 t).symm
    subst el em
    refine Eq.mpr (eq_wp (same l' m' G7)) ?_
    try simp [-Prod.exists]
    refine wp_imp (near_wp (d := d + 3) t.take t.pick t.near hb ok) fun v G8 ⟨x2, y2, st', hv, ok', hG⟩ => ?_
    subst hv hG
    exact (hJ _ _ _).mpr ⟨seats, st', x2, y2, _, rfl, ok', List.getElem?_set_self (List.getElem?_eq_some_iff.mp hb).1⟩
  · obtain ⟨seats, st, x, y, x5, rfl, _, _⟩ := (hJ _ _ _).mp h
    exact ⟨_, _, _, _, _, rfl⟩
end
theorem tabs : Tabs (tabOf prog) glo := by
  have h := tab_of (L := prog) nd_all
  have m : ∀ (i : Nat) (f : FD), prog[i]? = some f → f ∈ prog := fun i f e => List.mem_iff_getElem?.mpr ⟨i, e⟩
  exact ⟨h f_places_behind (m 0 _ rfl), h f_steps_of (m 1 _ rfl), h f_passes_of (m 2 _ rfl), h f__law_box (m 3 _ rfl), h f__law_take (m 4 _ rfl), h f__law_pick (m 5 _ rfl), h f__law_same (m 6 _ rfl), h f__law_house (m 7 _ rfl), h f__law_steps (m 8 _ rfl), h f__law_passes (m 9 _ rfl), h f__law_near (m 10 _ rfl), h f_law (m 11 _ rfl), by decide⟩
theorem holds (ns : List Int) (h : ns.length ≤ 63) : ∃ G', callF (tabOf prog) glo 60 "law" [.frl (ns.map .int)] [] = .ok (.bl true) G' := by
  obtain ⟨v, G', e, hv⟩ := wp_eq (law_wp (T := tabOf prog) (Γ := glo) (d := 53) (G := []) tabs h)
  subst hv
  exact ⟨G', e⟩
end K02

open PySem PySem.W PyProof.Rows
set_option maxHeartbeats 0 in
theorem PySem.Challenge.cw_lookonce_k02_steps_and_passes_holds : PySem.Challenge.rw_lookonce_k02_steps_and_passes.Holds := by
  w_on; o_law; k_head; (case hw => w_witness2)
  k_fill
  refine L2.walk_of (l := PySem.Challenge.rw_lookonce_k02_steps_and_passes) (n := 63) (k := 60) (x := "script") (CX := fun _ => L2.CX0) (sp := fun w => LK.spL PySem.Challenge.rw_lookonce_k02_steps_and_passes.prog w _ LK.XC0 (LK.callF (LK.tabOf K02.prog) K02.glo 60) "law" 1) rfl (by decide) rfl ⟨rfl, by decide, by decide⟩ (fun w h Y => PySem.W.kIn_of Y) ?F (fun w H a ns hl hO hS => by obtain ⟨G', e⟩ := K02.holds ns hl; exact LK.law_sp hO hS e) (fun _ _ _ _ _ h => h)
  case F =>
    intro w mg fa h KX G hmg
    refine' LK.law_ok (f := K02.f_law) (K02.ok_all KX G (LK.all_cons (LK.at_mk KX G ?a0 ?l0 ?c0 ?k0) (LK.all_cons (LK.at_mk KX G ?a1 ?l1 ?c1 ?k1) (LK.all_cons (LK.at_mk KX G ?a2 ?l2 ?c2 ?k2) (LK.all_cons (LK.at_mk KX G ?a3 ?l3 ?c3 ?k3) (LK.all_cons (LK.at_mk KX G ?a4 ?l4 ?c4 ?k4) (LK.all_cons (LK.at_mk KX G ?a5 ?l5 ?c5 ?k5) (LK.all_cons (LK.at_mk KX G ?a6 ?l6 ?c6 ?k6) (LK.all_cons (LK.at_mk KX G ?a7 ?l7 ?c7 ?k7) (LK.all_cons (LK.at_mk KX G ?a8 ?l8 ?c8 ?k8) (LK.all_cons (LK.at_mk KX G ?a9 ?l9 ?c9 ?k9) (LK.all_cons (LK.at_mk KX G ?a10 ?l10 ?c10 ?k10) (LK.all_cons (LK.at_mk KX G ?a11 ?l11 ?c11 ?k11) (LK.all_nil))))))))))))) (LK.all_cons (LK.gl_mk (i := (-1)) KX G (by decide) ?og0) (LK.all_nil)) (LK.all_cons (PySem.W.mg_none_of KX G ?b0) (LK.all_cons (PySem.W.mg_none_of KX G ?b1) (LK.all_cons (PySem.W.mg_none_of KX G ?b2) (LK.all_cons (PySem.W.mg_none_of KX G ?b3) (LK.all_cons (PySem.W.mg_none_of KX G ?b4) (LK.all_cons (PySem.W.mg_none_of KX G ?b5) (LK.all_cons (PySem.W.mg_none_of KX G ?b6) (LK.all_cons (PySem.W.mg_none_of KX G ?b7) (LK.all_cons (PySem.W.mg_none_of KX G ?b8) (LK.all_cons (PySem.W.mg_none_of KX G ?b9) (LK.all_cons (PySem.W.mg_none_of KX G ?b10) (LK.all_cons (PySem.W.mg_none_of KX G ?b11) (LK.all_cons (PySem.W.mg_none_of KX G ?b12) (LK.all_cons (PySem.W.mg_none_of KX G ?b13) (LK.all_nil)))))))))))))))) (List.mem_iff_getElem?.mpr ⟨11, rfl⟩) rfl hmg (fun _ _ _ _ _ _ _ => rfl)
    (case a0 => k_is); (case l0 => k_is); (case c0 => k_is); (case k0 => k_is)
    (case a1 => k_is); (case l1 => k_is); (case c1 => k_is); (case k1 => k_is)
    (case a2 => k_is); (case l2 => k_is); (case c2 => k_is); (case k2 => k_is)
    (case a3 => k_is); (case l3 => k_is); (case c3 => k_is); (case k3 => k_is)
    (case a4 => k_is); (case l4 => k_is); (case c4 => k_is); (case k4 => k_is)
    (case a5 => k_is); (case l5 => k_is); (case c5 => k_is); (case k5 => k_is)
    (case a6 => k_is); (case l6 => k_is); (case c6 => k_is); (case k6 => k_is)
    (case a7 => k_is); (case l7 => k_is); (case c7 => k_is); (case k7 => k_is)
    (case a8 => k_is); (case l8 => k_is); (case c8 => k_is); (case k8 => k_is)
    (case a9 => k_is); (case l9 => k_is); (case c9 => k_is); (case k9 => k_is)
    (case a10 => k_is); (case l10 => k_is); (case c10 => k_is); (case k10 => k_is)
    (case a11 => k_is); (case l11 => k_is); (case c11 => k_is); (case k11 => k_is)
    (case og0 => k_is)
    (case b0 => k_is)
    (case b1 => k_is)
    (case b2 => k_is)
    (case b3 => k_is)
    (case b4 => k_is)
    (case b5 => k_is)
    (case b6 => k_is)
    (case b7 => k_is)
    (case b8 => k_is)
    (case b9 => k_is)
    (case b10 => k_is)
    (case b11 => k_is)
    (case b12 => k_is)
    (case b13 => k_is)
