import PyProof.Rows.All
import Wide.All
import OpenK.AllK
import Wide.FinOn
import HandS.ForMost
import HandS.ForExc
import HandS.TupAny
import HandS.TupMul
import HandS.IsInst
import HandS.StrMore
import HandS.RaiseMore
import HandS.Style
import HandS.Flow
import HandS.Deep
import HandS.Strs
import HandS.More
import HandS.Text
import HandS.Replace
import HandS.ReplaceLit
import HandS.Comp
import HandS.Iter
import HandS.Zip
import HandS.Defaults
import KE.KRevSl
import HandS.Exc
import PyProof.ToksMono
import HandS.HeadEnd
import HandS.Ends
import KE.KStateDown
import HandS.Words
import HandS.WordsExc
import HandS.Head0
import HandS.Head1
import HandS.Head2
import HandS.HeadHook1
import HandS.HeadHook2
import PySem.Challenge.RW_fewbrackets_k44_each_condition_alone
set_option Elab.async false
set_option linter.all false
set_option maxRecDepth 100000
set_option maxHeartbeats 4000000
namespace M
abbrev T := List Nat
/-- values; list, dict, obj: frozen ones; ref: a mutable object, by its number -/
inductive Val where
  | none
  | bool (b : Bool)
  | int (i : Int)
  | str (s : T)
  | tup (xs : List Val)
  | list (xs : List Val)
  | dict (ks vs : List Val)
  | obj (c : Nat) (ns : List T) (vs : List Val)
  | ref (n : Nat)
  | fn (f : Nat)
  | cls (c : Nat)
  | ty (t : Nat)
  | scr (xs : List Val)
  deriving Inhabited
inductive Obj where
  | dead
  | list (xs : List Val)
  | dict (ks vs : List Val)
  | inst (c : Nat) (ns : List T) (vs : List Val)
abbrev Heap := List Obj
inductive Res (A : Type) where
  | ok (a : A) (h : Heap)
  | exc (e : Val) (h : Heap)
  | stuck
def Res.bind {A B : Type} : Res A → (A → Heap → Res B) → Res B
  | .ok a h, f => f a h
  | .exc e h, _ => .exc e h
  | .stuck, _ => .stuck
def Res.map {A B : Type} (r : Res A) (f : A → B) : Res B := r.bind fun a h => .ok (f a) h
@[simp] theorem bind_ok {A B : Type} (a : A) (h : Heap) (f : A → Heap → Res B) : (Res.ok a h).bind f = f a h := rfl
@[simp] theorem bind_exc {A B : Type} (e : Val) (h : Heap) (f : A → Heap → Res B) : (Res.exc e h : Res A).bind f = .exc e h := rfl
@[simp] theorem bind_stuck {A B : Type} (f : A → Heap → Res B) : (Res.stuck : Res A).bind f = .stuck := rfl
/-! ### data -/
mutual
/-- no reference below n or beyond: all references are below n -/
def Val.lt (n : Nat) : Val → Bool
  | .tup xs => Val.lts n xs
  | .list xs => Val.lts n xs
  | .dict ks vs => Val.lts n ks && Val.lts n vs
  | .obj _ _ vs => Val.lts n vs
  | .ref m => decide (m < n)
  | .scr xs => Val.lts n xs
  | _ => true
def Val.lts (n : Nat) : List Val → Bool
  | [] => true
  | x :: r => Val.lt n x && Val.lts n r
end
mutual
/-- plain data: None, truths, numbers, textsOf, tuples, (frozen) lists -/
def Val.flat : Val → Bool
  | .none => true
  | .bool _ => true
  | .int _ => true
  | .str _ => true
  | .tup xs => Val.flats xs
  | .list xs => Val.flats xs
  | _ => false
def Val.flats : List Val → Bool
  | [] => true
  | x :: r => Val.flat x && Val.flats r
end
mutual
/-- data without lists, but with dicts -/
def Val.tupd : Val → Bool
  | .none => true
  | .bool _ => true
  | .int _ => true
  | .str _ => true
  | .tup xs => Val.tupds xs
  | .dict ks vs => Val.tupds ks && Val.tupds vs && decide (ks.length = vs.length)
  | _ => false
def Val.tupds : List Val → Bool
  | [] => true
  | x :: r => Val.tupd x && Val.tupds r
end
mutual
def Val.deep : Val → Nat
  | .tup xs => Val.deeps xs + 1
  | .list xs => Val.deeps xs + 1
  | .dict ks vs => max (Val.deeps ks) (Val.deeps vs) + 1
  | _ => 0
def Val.deeps : List Val → Nat
  | [] => 0
  | x :: r => max (Val.deep x) (Val.deeps r)
end
mutual
/-- Python's == of plain data -/
def eqv : Val → Val → Bool
  | .none, .none => true
  | .bool a, .bool b => a == b
  | .bool a, .int j => (if a then 1 else 0) == j
  | .int i, .bool b => i == (if b then 1 else 0)
  | .int i, .int j => i == j
  | .str x, .str y => x == y
  | .list xs, .list ys => eqvs xs ys
  | .tup xs, .tup ys => eqvs xs ys
  | _, _ => false
def eqvs : List Val → List Val → Bool
  | [], [] => true
  | x :: xs, y :: ys => eqv x y && eqvs xs ys
  | _, _ => false
end
def Obj.lt (n : Nat) : Obj → Bool
  | .dead => true
  | .list xs => Val.lts n xs
  | .dict ks vs => Val.lts n ks && Val.lts n vs
  | .inst _ _ vs => Val.lts n vs


mutual
/-- the very same value -/
def Val.same : Val → Val → Bool
  | .none, .none => true
  | .bool a, .bool b => a == b
  | .int i, .int j => i == j
  | .str x, .str y => x == y
  | .list xs, .list ys => Val.sames xs ys
  | .tup xs, .tup ys => Val.sames xs ys
  | .dict a b, .dict c d => Val.sames a c && Val.sames b d
  | .obj c n v, .obj d m w => c == d && n == m && Val.sames v w
  | .ref a, .ref b => a == b
  | .fn a, .fn b => a == b
  | .cls a, .cls b => a == b
  | .ty a, .ty b => a == b
  | .scr xs, .scr ys => Val.sames xs ys
  | _, _ => false
def Val.sames : List Val → List Val → Bool
  | [], [] => true
  | x :: xs, y :: ys => Val.same x y && Val.sames xs ys
  | _, _ => false
end
mutual
@[simp] theorem same_refl : ∀ v : Val, Val.same v v = true
  | .none => rfl
  | .bool b => by simp [Val.same]
  | .int _ => by simp [Val.same]
  | .str _ => by simp [Val.same]
  | .tup xs => by simp [Val.same, sames_refl xs]
  | .list xs => by simp [Val.same, sames_refl xs]
  | .dict a b => by simp [Val.same, sames_refl a, sames_refl b]
  | .obj c n v => by simp [Val.same, sames_refl v]
  | .ref _ => by simp [Val.same]
  | .fn _ => by simp [Val.same]
  | .cls _ => by simp [Val.same]
  | .ty _ => by simp [Val.same]
  | .scr xs => by simp [Val.same, sames_refl xs]
@[simp] theorem sames_refl : ∀ vs : List Val, Val.sames vs vs = true
  | [] => rfl
  | v :: r => by simp [Val.sames, same_refl v, sames_refl r]
end
mutual
theorem same_eq : ∀ {v w : Val}, Val.same v w = true → v = w
  | .none, w, h => by cases w <;> simp [Val.same] at h <;> rfl
  | .bool b, w, h => by cases w <;> simp [Val.same] at h; rw [h]
  | .int _, w, h => by cases w <;> simp [Val.same] at h; rw [h]
  | .str _, w, h => by cases w <;> simp [Val.same] at h; rw [h]
  | .tup xs, w, h => by cases w <;> simp [Val.same] at h; rw [sames_eq h]
  | .list xs, w, h => by cases w <;> simp [Val.same] at h; rw [sames_eq h]
  | .dict a b, w, h => by cases w <;> simp [Val.same] at h; rw [sames_eq h.1, sames_eq h.2]
  | .obj c n v, w, h => by cases w <;> simp [Val.same] at h; rw [h.1.1, h.1.2, sames_eq h.2]
  | .ref _, w, h => by cases w <;> simp [Val.same] at h; rw [h]
  | .fn _, w, h => by cases w <;> simp [Val.same] at h; rw [h]
  | .cls _, w, h => by cases w <;> simp [Val.same] at h; rw [h]
  | .ty _, w, h => by cases w <;> simp [Val.same] at h; rw [h]
  | .scr xs, w, h => by cases w <;> simp [Val.same] at h; rw [sames_eq h]
theorem sames_eq : ∀ {vs ws : List Val}, Val.sames vs ws = true → vs = ws
  | [], ws, h => by cases ws <;> simp [Val.sames] at h; rfl
  | v :: r, ws, h => by
    cases ws with
    | nil => simp [Val.sames] at h
    | cons w t => simp [Val.sames] at h; rw [same_eq h.1, sames_eq h.2]
end
def Obj.same : Obj → Obj → Bool
  | .dead, .dead => true
  | .list a, .list b => Val.sames a b
  | .dict a b, .dict c d => Val.sames a c && Val.sames b d
  | .inst c n v, .inst d m w => c == d && n == m && Val.sames v w
  | _, _ => false
@[simp] theorem osame_refl (o : Obj) : Obj.same o o = true := by cases o <;> simp [Obj.same]
/-! ### reading -/
def Heap.at (h : Heap) (n : Nat) : Option Obj := h[n]?
/-- what a value is, a mutable object looked up -/
def dr (h : Heap) : Val → Option Val
  | .ref n => match h[n]? with
    | some (.list xs) => some (.list xs)
    | some (.dict ks vs) => some (.dict ks vs)
    | _ => none
  | v => some v
/-- the items of a list or a tuple -/
def seqOf (h : Heap) (v : Val) : Option (List Val) := match dr h v with
  | some (.list xs) => some xs
  | some (.tup xs) => some xs
  | _ => none
/-- the items of a list -/
def lstOf (h : Heap) (v : Val) : Option (List Val) := match dr h v with
  | some (.list xs) => some xs
  | _ => none
def truth (h : Heap) (v : Val) : Option Bool := match dr h v with
  | some .none => some false
  | some (.bool b) => some b
  | some (.int i) => some (decide (i ≠ 0))
  | some (.str s) => some (!s.isEmpty)
  | some (.tup xs) => some (!xs.isEmpty)
  | some (.list xs) => some (!xs.isEmpty)
  | _ => none
def SL : Nat := 16777216
def asc (s : T) : Bool := (s.all fun c => decide (c < 128)) && decide (s.length ≤ SL)
/-! ### primitives -/
inductive P where
  | add | addm | sub | mul | fdiv | mod | pow | neg
  | eq | ne | lt | le | gt | ge | isNone | isNotNone | isTrue | isFalse | isNotTrue | isNotFalse | mem | notmem
  | ix | sl (lo hi : Bool) | rev (m : Bool)
  | tup | list (m : Bool) | dict0 (m : Bool)
  | len | all | any | sum | int | str | repr | ord | listOf (m : Bool) | tupOf | bool
  | min2 | max2 | min1 | max1
  | isi (ts : List Nat)
  | join | upper | replace | count | append | pop | popAt | extend | insert | index
  deriving DecidableEq
def okT (s : T) (h : Heap) : Res Val := if s.length ≤ SL then .ok (.str s) h else .stuck
def okTup (xs : List Val) (h : Heap) : Res Val := if xs.length ≤ SL then .ok (.tup xs) h else .stuck
/-- a new list: a mutable one, or a frozen one -/
def okList (m : Bool) (xs : List Val) (h : Heap) : Res Val :=
  if xs.length ≤ SL then (if m then .ok (.ref h.length) (h ++ [.list xs]) else .ok (.list xs) h) else .stuck
def small (i : Int) : Bool := decide (-18446744073709551616 < i ∧ i < 18446744073709551616)
def addV (h : Heap) : Val → Val → Res Val
  | .int i, .int j => .ok (.int (i + j)) h
  | .str s, .str t => okT (s ++ t) h
  | .tup xs, .tup ys => okTup (xs ++ ys) h
  | a, b => match dr h a, dr h b with
    | some (.list xs), some (.list ys) => okList false (xs ++ ys) h
    | _, _ => .stuck
def addM (h : Heap) (a b : Val) : Res Val := match dr h a, dr h b with
  | some (.list xs), some (.list ys) => okList true (xs ++ ys) h
  | _, _ => .stuck
def mulV (h : Heap) : Val → Val → Res Val
  | .int i, .int j => if small i || small j then .ok (.int (i * j)) h else .stuck
  | .str s, .int j => if s.length * j.toNat ≤ SL ∧ j < 1000000000 ∧ -1000000000 < j then .ok (.str (List.replicate j.toNat s).flatten) h else .stuck
  | .tup xs, .int j => if xs.isEmpty = false ∧ 2 ≤ j ∧ j ≤ 1000 ∧ xs.length ≤ 1000 then .ok (.tup (List.replicate j.toNat xs).flatten) h else .stuck
  | .list xs, .int j => if xs.length * j.toNat ≤ SL ∧ j < 1000000000 ∧ -1000000000 < j then .ok (.list (List.replicate j.toNat xs).flatten) h else .stuck
  | _, _ => .stuck
def eqV (h : Heap) (a b : Val) : Option Bool := match dr h a, dr h b with
  | some x, some y => if x.flat && y.flat && decide (x.deep ≤ 64) && decide (y.deep ≤ 64) then some (eqv x y) else none
  | _, _ => none
def ltT : T → T → Bool
  | _, [] => false
  | [], _ :: _ => true
  | a :: s, b :: t => if a < b then true else if a = b then ltT s t else false
def ltV : Val → Val → Option Bool
  | .int i, .int j => some (decide (i < j))
  | .str s, .str t => some (ltT s t)
  | _, _ => none
/-- x in xs, by == -/
def memV (x : Val) : List Val → Bool
  | [] => false
  | y :: r => eqv y x || memV x r
def inV (h : Heap) (x c : Val) : Option Bool := match dr h c, x with
  | some (.str s), .str [c] => some (decide (c ∈ s))
  | some (.list xs), x => if x.flat && Val.flats xs && decide (x.deep ≤ 64) && decide (Val.deeps xs ≤ 64) then some (memV x xs) else none
  | some (.tup xs), x => if x.flat && Val.flats xs && decide (x.deep ≤ 64) && decide (Val.deeps xs ≤ 64) then some (memV x xs) else none
  | _, _ => none
def ixN (n : Nat) (i : Int) : Option Nat := if 0 ≤ i then (if i < n then some i.toNat else none) else if -(n : Int) ≤ i then some (i + n).toNat else none
def atI {A : Type} (xs : List A) (i : Int) : Option A := (ixN xs.length i).bind fun j => xs[j]?
def ixV (h : Heap) (a : Val) (i : Int) : Option Val := match dr h a with
  | some (.str s) => (atI s i).map fun c => .str [c]
  | some (.list xs) => atI xs i
  | some (.tup xs) => atI xs i
  | _ => none
def sIx (n d : Nat) : Option Int → Nat
  | none => d
  | some v => if v < 0 then (v + (n : Int)).toNat else min v.toNat n
def cut {A : Type} (xs : List A) (lo hi : Option Int) : List A := (xs.drop (sIx xs.length 0 lo)).take (sIx xs.length xs.length hi - sIx xs.length 0 lo)
def slV (h : Heap) (a : Val) (lo hi : Option Int) : Res Val := match dr h a with
  | some (.scr xs) => .ok (.list (cut xs lo hi)) h
  | some (.str s) => .ok (.str (cut s lo hi)) h
  | some (.list xs) => .ok (.list (cut xs lo hi)) h
  | some (.tup xs) => .ok (.tup (cut xs lo hi)) h
  | _ => .stuck
def lenV (h : Heap) (a : Val) : Option Nat := match dr h a with
  | some (.str s) => some s.length
  | some (.list xs) => some xs.length
  | some (.tup xs) => some xs.length
  | _ => none
def boolsOf : List Val → Option (List Bool)
  | [] => some []
  | .bool b :: r => (boolsOf r).map (b :: ·)
  | _ => none
def intsOf : List Val → Option (List Int)
  | [] => some []
  | .int i :: r => (intsOf r).map (i :: ·)
  | _ => none
def textsOf : List Val → Option (List T)
  | [] => some []
  | .str s :: r => (textsOf r).map (s :: ·)
  | _ => none
/-- kinds: 0 str, 1 int, 2 bool, 3 tuple, 4 list, 5 dict, 6 None -/
def kindOf (h : Heap) (v : Val) : Option Nat := match dr h v with
  | some .none => some 6
  | some (.bool _) => some 2
  | some (.int _) => some 1
  | some (.str _) => some 0
  | some (.tup _) => some 3
  | some (.list _) => some 4
  | some (.dict _ _) => some 5
  | _ => none
def isOf (k t : Nat) : Bool := k == t || (k == 2 && t == 1)
def toS (s : T) : PySem.Str := ⟨s.toArray⟩
mutual
def toPy : Val → PySem.PyData
  | .none => .none
  | .bool b => .bool b
  | .int i => .int i
  | .str s => .str (toS s)
  | .tup xs => .tuple (toPys xs)
  | .list xs => .list (toPys xs)
  | .dict ks vs => .dict ((toPys ks).zip (toPys vs))
  | _ => .none
def toPys : List Val → List PySem.PyData
  | [] => []
  | x :: r => toPy x :: toPys r
end
mutual
/-- all numbers are below 2 ^ 1000 -/
def Val.few : Val → Bool
  | .int i => decide (i.natAbs < 2 ^ 1000)
  | .tup xs => Val.fews xs
  | .list xs => Val.fews xs
  | .dict ks vs => Val.fews ks && Val.fews vs
  | _ => true
def Val.fews : List Val → Bool
  | [] => true
  | x :: r => Val.few x && Val.fews r
end
def strR (s : PySem.Str) (h : Heap) : Res Val := if asc s.cps.toList then .ok (.str s.cps.toList) h else .stuck
def reprT (v : Val) : T := (PySem.PyData.shown (toPy v)).cps.toList
def reprV (h : Heap) (v : Val) : Res Val := match dr h v with
  | some x => if (x.flat || x.tupd) && x.few && decide (x.deep ≤ 64) && asc (reprT x) then .ok (.str (reprT x)) h else .stuck
  | none => .stuck

def optB (o : Option Bool) (h : Heap) : Res Val := match o with
  | some b => .ok (.bool b) h
  | none => .stuck
def optV (o : Option Val) (h : Heap) : Res Val := match o with
  | some v => .ok v h
  | none => .stuck
def minI : Int → List Int → Int
  | m, [] => m
  | m, i :: r => minI (if i < m then i else m) r
def maxI : Int → List Int → Int
  | m, [] => m
  | m, i :: r => maxI (if i > m then i else m) r
def int1 (a : Val) (f : Int → Res Val) : Res Val := match a with
  | .int i => f i
  | _ => .stuck
def int2 (a b : Val) (f : Int → Int → Res Val) : Res Val := match a, b with
  | .int i, .int j => f i j
  | _, _ => .stuck
def str1 (a : Val) (f : T → Res Val) : Res Val := match a with
  | .str i => f i
  | _ => .stuck
def bool1 (a : Val) (f : Bool → Res Val) : Res Val := match a with
  | .bool i => f i
  | _ => .stuck
def ref1 (a : Val) (f : Nat → Res Val) : Res Val := match a with
  | .ref i => f i
  | _ => .stuck
def isN : Val → Bool
  | .none => true
  | _ => false
def seq1 (h : Heap) (a : Val) (f : List Val → Res Val) : Res Val := match seqOf h a with
  | some xs => f xs
  | none => .stuck
def lstr (h : Heap) (a : Val) (f : List Val → Res Val) : Res Val := match lstOf h a with
  | some xs => f xs
  | none => .stuck
def lst1 (h : Heap) (n : Nat) (f : List Val → Res Val) : Res Val := match h[n]? with
  | some (.list xs) => f xs
  | _ => .stuck
def evP (p : P) (vs : List Val) (h : Heap) : Res Val := match p, vs with
  | .add, [a, b] => addV h a b
  | .addm, [a, b] => addM h a b
  | .sub, [a, b] => int2 a b fun i j => .ok (.int (i - j)) h
  | .mul, [a, b] => mulV h a b
  | .fdiv, [a, b] => int2 a b fun i j => if 0 < j ∧ j < 1073741824 then .ok (.int (i / j)) h else .stuck
  | .mod, [a, b] => int2 a b fun i j => if 0 < j then .ok (.int (i % j)) h else .stuck
  | .pow, [a, b] => int2 a b fun i j => if 0 ≤ j ∧ j ≤ 1000 ∧ small i = true then .ok (.int (i ^ j.toNat)) h else .stuck
  | .neg, [a] => int1 a fun i => .ok (.int (-i)) h
  | .eq, [a, b] => optB (eqV h a b) h
  | .ne, [a, b] => optB ((eqV h a b).map (!·)) h
  | .lt, [a, b] => optB (ltV a b) h
  | .gt, [a, b] => optB (ltV b a) h
  | .le, [a, b] => optB ((ltV b a).map (!·)) h
  | .ge, [a, b] => optB ((ltV a b).map (!·)) h
  | .isNone, [a] => .ok (.bool (isN a)) h
  | .isNotNone, [a] => .ok (.bool (!isN a)) h
  | .isTrue, [a] => bool1 a fun b => .ok (.bool b) h
  | .isFalse, [a] => bool1 a fun b => .ok (.bool (!b)) h
  | .isNotTrue, [a] => bool1 a fun b => .ok (.bool (!b)) h
  | .isNotFalse, [a] => bool1 a fun b => .ok (.bool b) h
  | .mem, [a, b] => optB (inV h a b) h
  | .notmem, [a, b] => optB ((inV h a b).map (!·)) h
  | .ix, [a, b] => int1 b fun i => optV (ixV h a i) h
  | .sl true true, [a, b, c] => int2 b c fun i j => slV h a (some i) (some j)
  | .sl true false, [a, b] => int1 b fun i => slV h a (some i) none
  | .sl false true, [a, c] => int1 c fun j => slV h a none (some j)
  | .sl false false, [a] => slV h a none none
  | .rev m, [a] => match dr h a with
    | some (.list xs) => okList m xs.reverse h
    | some (.str s) => .ok (.str s.reverse) h
    | some (.tup xs) => okTup xs.reverse h
    | _ => .stuck
  | .tup, vs => okTup vs h
  | .list m, vs => okList m vs h
  | .dict0 m, [] => if m then .ok (.ref h.length) (h ++ [.dict [] []]) else .ok (.dict [] []) h
  | .len, [a] => optV ((lenV h a).map fun n => .int n) h
  | .all, [a] => optB (((lstOf h a).bind boolsOf).map fun bs => bs.all id) h
  | .any, [a] => optB (((lstOf h a).bind boolsOf).map fun bs => bs.any id) h
  | .sum, [a] => optV (((lstOf h a).bind intsOf).map fun is => .int is.sum) h
  | .int, [a] => match a with
    | .bool b => .ok (.int (if b then 1 else 0)) h
    | .int i => .ok (.int i) h
    | _ => .stuck
  | .bool, [a] => bool1 a fun b => .ok (.bool b) h
  | .str, [a] => match a with
    | .int i => if i.natAbs < 2 ^ 1000 then strR (toString i) h else .stuck
    | .str s => .ok (.str s) h
    | _ => .stuck
  | .repr, [a] => reprV h a
  | .ord, [a] => str1 a fun s => match s with
    | [c] => .ok (.int c) h
    | _ => .stuck
  | .listOf m, [a] => seq1 h a fun xs => okList m xs h
  | .tupOf, [a] => seq1 h a fun xs => okTup xs h
  | .min2, [a, b] => int2 a b fun i j => .ok (.int (if j < i then j else i)) h
  | .max2, [a, b] => int2 a b fun i j => .ok (.int (if j > i then j else i)) h
  | .min1, [a] => match (lstOf h a).bind intsOf with
    | some (i :: r) => .ok (.int (minI i r)) h
    | _ => .stuck
  | .max1, [a] => match (lstOf h a).bind intsOf with
    | some (i :: r) => .ok (.int (maxI i r)) h
    | _ => .stuck
  | .isi ts, [a] => optB ((kindOf h a).map fun k => ts.any (isOf k)) h
  | .join, [a, b] => str1 a fun sep => match (seqOf h b).bind textsOf with
    | some ss => if (ss.map (·.length)).sum + ss.length * sep.length ≤ SL then strR (PySem.Txt.join (toS sep) (ss.map toS)) h else .stuck
    | none => .stuck
  | .upper, [a] => str1 a fun s => if s.length ≤ 5000000 then strR (PySem.Txt.upper (toS s)) h else .stuck
  | .count, [a, b] => str1 a fun s => str1 b fun t => .ok (.int (PySem.Txt.count (toS s) (toS t))) h
  | .replace, [a, b, c] => str1 a fun s => str1 b fun t => str1 c fun u => if s.length + (s.length + 1) * u.length ≤ SL ∧ t ≠ u then strR (PySem.Txt.replace (toS s) (toS t) (toS u)) h else .stuck
  | .append, [a, v] => ref1 a fun n => lst1 h n fun xs => if xs.length < SL then .ok .none (h.set n (.list (xs ++ [v]))) else .stuck
  | .pop, [a] => ref1 a fun n => lst1 h n fun xs => match xs[xs.length - 1]? with
    | some v => .ok v (h.set n (.list xs.dropLast))
    | none => .stuck
  | .popAt, [a, b] => ref1 a fun n => int1 b fun i => lst1 h n fun xs => if xs.length ≤ SL then (match ixN xs.length i with
    | some k => match xs[k]? with
      | some v => .ok v (h.set n (.list (xs.eraseIdx k)))
      | none => .stuck
    | none => .stuck) else .stuck
  | .extend, [a, b] => ref1 a fun n => lst1 h n fun xs => lstr h b fun ys => if xs.length + ys.length ≤ SL then .ok .none (h.set n (.list (xs ++ ys))) else .stuck
  | _, _ => .stuck
/-! ### the text -/
inductive Tg where
  | name (i : Nat)
  | tup (is : List Nat)
mutual
inductive ME where
  | lit (v : Val)
  | var (i : Nat)
  | prim (p : P) (es : List ME)
  | and (a b : ME)
  | or (a b : ME)
  | not (a : ME)
  | ite (t a b : ME)
  | chain (p q : P) (a b c : ME)
  | call (f : Nat) (es kes : List ME) (sel : List (Sum Nat Val))
  | comp (m : Bool) (own : List Nat) (t : Tg) (i : MI) (cs : List ME) (e : ME)
  | frz (e : ME)
  | meth (p : P) (o : ME) (es : List ME)
inductive MI where
  | val (e : ME)
  | range (es : List ME)
  | enum (e : ME)
  | zip (a b : ME)
end
inductive TS where
  | name (i : Nat)
  | tup (is : List Nat)
  | ix (a i : ME)
mutual
inductive MS where
  | asg (ts : List TS) (e : ME)
  | par (is : List Nat) (es : List ME)
  | asg2 (i j : Nat) (e : ME)
  | aug (i : Nat) (p : P) (e : ME)
  | expr (e : ME)
  | ite (t : ME) (a b : List MS)
  | wh (t : ME) (b : List MS)
  | for (t : Tg) (i : MI) (b : List MS)
  | ret (e : ME)
  | kill (is : List Nat)
  | brk
end
abbrev Loc := List (Option Val)
abbrev CallFn := Nat → List Val → Heap → Res Val
def setsTg : List Nat → List Val → Loc → Option Loc
  | [], [], ls => some ls
  | i :: is, x :: xs, ls => setsTg is xs (ls.set i (some x))
  | _, _, _ => none
def setTg (t : Tg) (v : Val) (ls : Loc) : Option Loc := match t with
  | .name i => some (ls.set i (some v))
  | .tup is => match v with
    | .tup xs => setsTg is xs ls
    | _ => none
def selV (sel : List (Sum Nat Val)) (vs : List Val) : Option (List Val) := match sel with
  | [] => some []
  | .inl j :: r => match vs[j]?, selV r vs with
    | some v, some l => some (v :: l)
    | _, _ => none
  | .inr v :: r => (selV r vs).map (v :: ·)
def rangeL (lo : Int) : Nat → List Val
  | 0 => []
  | n + 1 => .int lo :: rangeL (lo + 1) n
def rangeD (lo : Int) : Nat → List Val
  | 0 => []
  | n + 1 => .int lo :: rangeD (lo - 1) n
def enumL (i : Int) : List Val → List Val
  | [] => []
  | x :: r => .tup [.int i, x] :: enumL (i + 1) r
def zipL : List Val → List Val → List Val
  | x :: r, y :: s => .tup [x, y] :: zipL r s
  | _, _ => []
def RL : Int := 1000000000
/-- what a walk goes over, and the mutable object that must stand as it is meanwhile -/
def itRange (vs : List Val) : Option (List Val) := match vs with
  | [.int j] => if -RL ≤ j ∧ j ≤ RL then some (rangeL 0 j.toNat) else none
  | [.int i, .int j] => if -RL ≤ i ∧ i ≤ RL ∧ -RL ≤ j ∧ j ≤ RL then some (rangeL i (j - i).toNat) else none
  | [.int i, .int j, .int c] => if -RL ≤ i ∧ i ≤ RL ∧ -RL ≤ j ∧ j ≤ RL ∧ c = -1 then some (rangeD i (i - j).toNat) else none
  | _ => none
abbrev Pin := Option (Nat × List Val)
def itVal (h : Heap) (v : Val) : Option (List Val × Pin) := match v with
  | .str s => some (s.map fun c => .str [c], none)
  | .tup xs => some (xs, none)
  | .list xs => some (xs, none)
  | .ref n => match h[n]? with
    | some (.list xs) => some (xs, some (n, xs))
    | _ => none
  | _ => none
def zipR (v w : Val) (h : Heap) : Res (List Val × Pin) := match v, w with
  | .tup l, .tup k => .ok (zipL l k, none) h
  | .list l, .list k => .ok (zipL l k, none) h
  | _, _ => .stuck
/-- no list -/
def isTup : Val → Bool
  | .list _ => false
  | .ref _ => false
  | _ => true
/-- a walked mutable list may not have changed -/
def pinned (h : Heap) : Pin → Bool
  | none => true
  | some (n, xs) => match h[n]? with
    | some (.list ys) => Val.sames ys xs
    | _ => false

inductive Flow where
  | nx (ls : Loc)
  | ret (v : Val)
  | brk (ls : Loc)
/-- freezing: a mutable list (or dict) is from here on a value -/
def frzV (v : Val) (h : Heap) : Res Val := match v with
  | .ref n => match h[n]? with
    | some (.list xs) => .ok (.list xs) (h.set n .dead)
    | some (.dict ks vs) => .ok (.dict ks vs) (h.set n .dead)
    | some (.inst c ns vs) => .ok (.obj c ns vs) (h.set n .dead)
    | _ => .stuck
  | v => .ok v h
/-- the turns of a comprehension's clause -/
def turns (pin : Pin) (step : Val → Heap → Res (List Val)) : List Val → Heap → Res (List Val)
  | [], h => if pinned h pin then .ok [] h else .stuck
  | v :: r, h => if pinned h pin then (step v h).bind fun a h => (turns pin step r h).bind fun b h => .ok (a ++ b) h else .stuck
def forL (pin : Pin) (step : Val → Loc → Heap → Res Flow) : List Val → Loc → Heap → Res Flow
  | [], ls, h => if pinned h pin then .ok (.nx ls) h else .stuck
  | v :: r, ls, h => if pinned h pin then (step v ls h).bind fun f h => (match f with
    | .nx ls => forL pin step r ls h
    | .ret v => .ok (.ret v) h
    | .brk ls => .ok (.nx ls) h) else .stuck
def whL (test : Loc → Heap → Res Bool) (step : Loc → Heap → Res Flow) : Nat → Loc → Heap → Res Flow
  | 0, _, _ => .stuck
  | n + 1, ls, h => (test ls h).bind fun b h => if b then (step ls h).bind fun f h => (match f with
    | .nx ls => whL test step n ls h
    | .ret v => .ok (.ret v) h
    | .brk ls => .ok (.nx ls) h) else .ok (.nx ls) h
def killL (is : List Nat) (ls : Loc) : Loc := is.foldl (fun l i => l.set i none) ls
def WL : Nat := 1000000000000
def truthR (v : Val) (h : Heap) : Res Bool := match truth h v with
  | some b => .ok b h
  | none => .stuck
/-- may the method be asked of it -/
def isLst (v : Val) (h : Heap) : Bool := match v with
  | .ref n => match h[n]? with
    | some (.list _) => true
    | _ => false
  | _ => false
def isStr : Val → Bool
  | .str _ => true
  | _ => false
def recv (p : P) (v : Val) (h : Heap) : Bool := match p with
  | .append | .pop | .popAt | .extend | .insert => isLst v h
  | .join | .upper | .replace | .count => isStr v
  | _ => false
mutual
def evE (cl : CallFn) : ME → Loc → Heap → Res Val
  | .lit v, _, h => .ok v h
  | .var i, ls, h => match ls[i]? with
    | some (some v) => .ok v h
    | _ => .stuck
  | .prim p es, ls, h => (evEs cl es ls h).bind fun vs h => evP p vs h
  | .and a b, ls, h => (evE cl a ls h).bind fun v h => (truthR v h).bind fun t h => if t then evE cl b ls h else .ok v h
  | .or a b, ls, h => (evE cl a ls h).bind fun v h => (truthR v h).bind fun t h => if t then .ok v h else evE cl b ls h
  | .not a, ls, h => (evE cl a ls h).bind fun v h => (truthR v h).bind fun t h => .ok (.bool (!t)) h
  | .ite t a b, ls, h => (evE cl t ls h).bind fun v h => (truthR v h).bind fun t h => if t then evE cl a ls h else evE cl b ls h
  | .chain p q a b c, ls, h => (evE cl a ls h).bind fun x h => (evE cl b ls h).bind fun y h => (evP p [x, y] h).bind fun v h => (match v with
    | .bool true => (evE cl c ls h).bind fun z h => evP q [y, z] h
    | .bool false => .ok (.bool false) h
    | _ => .stuck)
  | .call f es kes sel, ls, h => (evEs cl es ls h).bind fun vs h => (evEs cl kes ls h).bind fun ws h => match selV sel (vs ++ ws) with
    | some us => cl f us h
    | none => .stuck
  | .comp m own t i cs e, ls, h => (evI cl i ls h).bind fun p h => (turns p.2 (fun v h => match setTg t v (killL own ls) with
    | some ls => (evC cl cs ls h).bind fun b h => if b then (evE cl e ls h).bind fun v h => .ok [v] h else .ok [] h
    | none => .stuck) p.1 h).bind fun vs h => okList m vs h
  | .frz e, ls, h => (evE cl e ls h).bind fun v h => frzV v h
  | .meth p o es, ls, h => (evE cl o ls h).bind fun v h => if recv p v h then (evEs cl es ls h).bind fun vs h => evP p (v :: vs) h else .stuck
def evEs (cl : CallFn) : List ME → Loc → Heap → Res (List Val)
  | [], _, h => .ok [] h
  | e :: r, ls, h => (evE cl e ls h).bind fun v h => (evEs cl r ls h).bind fun vs h => .ok (v :: vs) h
def evC (cl : CallFn) : List ME → Loc → Heap → Res Bool
  | [], _, h => .ok true h
  | c :: r, ls, h => (evE cl c ls h).bind fun v h => (truthR v h).bind fun t h => if t then evC cl r ls h else .ok false h
def evI (cl : CallFn) : MI → Loc → Heap → Res (List Val × Pin)
  | .val e, ls, h => (evE cl e ls h).bind fun v h => match itVal h v with
    | some p => .ok p h
    | none => .stuck
  | .range es, ls, h => (evEs cl es ls h).bind fun vs h => match itRange vs with
    | some l => .ok (l, none) h
    | none => .stuck
  | .enum e, ls, h => (evE cl e ls h).bind fun v h => match isTup v, itVal h v with
    | false, some (l, pin) => .ok (enumL 0 l, pin) h
    | _, _ => .stuck
  | .zip a b, ls, h => (evE cl a ls h).bind fun v h => (evE cl b ls h).bind fun w h => zipR v w h
end
def evT (cl : CallFn) (e : ME) (ls : Loc) (h : Heap) : Res Bool := (evE cl e ls h).bind truthR
def ref1S {A : Type} (a : Val) (h : Heap) (f : Nat → Res A) : Res A := match a with
  | .ref i => f i
  | _ => .stuck
def int1S {A : Type} (a : Val) (f : Int → Res A) : Res A := match a with
  | .int i => f i
  | _ => .stuck
def lst1S {A : Type} (h : Heap) (n : Nat) (f : List Val → Res A) : Res A := match h[n]? with
  | some (.list xs) => f xs
  | _ => .stuck
/-- op= -/
def augV (p : P) (v w : Val) (h : Heap) : Res Val := match p, v, w with
  | .add, .int i, .int j => .ok (.int (i + j)) h
  | .add, .str s, .str t => okT (s ++ t) h
  | .sub, .int i, .int j => .ok (.int (i - j)) h
  | _, _, _ => .stuck
def stoTg (cl : CallFn) (v : Val) : TS → Loc → Heap → Res Loc
  | .name i, ls, h => .ok (ls.set i (some v)) h
  | .tup is, ls, h => match setTg (.tup is) v ls with
    | some ls => .ok ls h
    | none => .stuck
  | .ix a i, ls, h => (evE cl a ls h).bind fun x h => (evE cl i ls h).bind fun y h => ref1S x h fun n => int1S y fun j => lst1S h n fun xs => match ixN xs.length j with
    | some k => .ok ls (h.set n (.list (xs.set k v)))
    | none => .stuck
def stoTgs (cl : CallFn) (v : Val) : List TS → Loc → Heap → Res Loc
  | [], ls, h => .ok ls h
  | t :: r, ls, h => (stoTg cl v t ls h).bind fun ls h => stoTgs cl v r ls h
mutual
def evS (cl : CallFn) : MS → Loc → Heap → Res Flow
  | .asg ts e, ls, h => (evE cl e ls h).bind fun v h => (stoTgs cl v ts ls h).bind fun ls h => .ok (.nx ls) h
  | .par is es, ls, h => (evEs cl es ls h).bind fun vs h => match setsTg is vs ls with
    | some ls => .ok (.nx ls) h
    | none => .stuck
  | .asg2 i j e, ls, h => (evE cl e ls h).bind fun v h => .ok (.nx ((ls.set i (some v)).set j (some v))) h
  | .aug i p e, ls, h => match ls[i]? with
    | some (some x) => (evE cl e ls h).bind fun y h => (augV p x y h).bind fun v h => .ok (.nx (ls.set i (some v))) h
    | _ => .stuck
  | .expr e, ls, h => (evE cl e ls h).bind fun _ h => .ok (.nx ls) h
  | .ite t a b, ls, h => (evT cl t ls h).bind fun c h => if c then evB cl a ls h else evB cl b ls h
  | .wh t b, ls, h => whL (evT cl t) (fun ls h => evB cl b ls h) WL ls h
  | .for t i b, ls, h => (evI cl i ls h).bind fun p h => forL p.2 (fun v ls h => match setTg t v ls with
    | some ls => evB cl b ls h
    | none => .stuck) p.1 ls h
  | .ret e, ls, h => (evE cl e ls h).bind fun v h => .ok (.ret v) h
  | .kill is, ls, h => .ok (.nx (killL is ls)) h
  | .brk, ls, h => .ok (.brk ls) h
def evB (cl : CallFn) : List MS → Loc → Heap → Res Flow
  | [], ls, h => .ok (.nx ls) h
  | s :: r, ls, h => (evS cl s ls h).bind fun f h => match f with
    | .nx ls => evB cl r ls h
    | f => .ok f h
end
/-! ### defs -/
structure Fn where
  n : Nat
  slots : Nat
  keep : Bool
  body : List MS
def okDrop (n : Nat) : Heap → Heap → Bool
  | [], _ => true
  | o :: h, o' :: h' => (Obj.same o o' || o'.lt n) && okDrop n h h'
  | _ :: _, [] => false
/-- behind a call: what was made is dropped, but for what a keeping def made -/
def dropTo (keep : Bool) (h : Heap) (v : Val) (h' : Heap) : Res Val :=
  if keep then .ok v h' else if v.lt h.length && okDrop h.length h h' then .ok v (h'.take h.length) else .stuck
abbrev Tab := Nat → Option Fn
def runF (cl : CallFn) (f : Fn) (vs : List Val) (h : Heap) : Res Val :=
  if vs.length = f.n then
    match evB cl f.body (vs.map some ++ List.replicate (f.slots - f.n) none) h with
    | .ok (.ret v) h' => dropTo f.keep h v h'
    | .ok (.nx _) h' => dropTo f.keep h .none h'
    | .ok (.brk _) _ => .stuck
    | .exc e h' => .exc e h'
    | .stuck => .stuck
  else .stuck
def callN (G : Tab) : Nat → CallFn
  | 0 => fun _ _ _ => .stuck
  | k + 1 => fun f vs h => match G f with
    | some fn => runF (callN G k) fn vs h
    | none => .stuck
end M
namespace M
open PySem PySem.Spec PyProof.Rows L2
/-! ### what stands for what -/
/-- the numbers' addresses, the heap -/
structure RS where
  K : PySem.W.Frag
  r : List Addr
  h : Heap
  H : Hp
  own : List Addr := []
def Liv (S : RS) (a : Addr) : Prop := ∃ (i : Nat) (o : Obj), S.r[i]? = some a ∧ S.h[i]? = some o ∧ o ≠ Obj.dead
/-- a live mutable object, or a list that is being made -/
def Live (S : RS) (a : Addr) : Prop := Liv S a ∨ a ∈ S.own
def KT (K : PySem.W.Frag) (a : Addr) (xs : List V) : Prop :=
  ∃ (o : PySem.Obj) (its : Array Value) (n : Nat), K.lookup a = some o ∧ o.cls = .type "tuple" ∧ o.data = .seq its n ∧ its.size ≤ sizeLine ∧ Vals xs its.toList
def FzL (S : RS) (a : Addr) (xs : List V) : Prop := S.H a = some (.lst xs) ∧ ¬ Live S a
def KL (K : PySem.W.Frag) (a : Addr) (xs : List V) : Prop :=
  ∃ (o : PySem.Obj) (its : Array Value) (n : Nat), K.lookup a = some o ∧ o.cls = .type "list" ∧ o.dict = none ∧ o.data = .seq its n ∧
    its.size ≤ sizeLine ∧ Vals xs its.toList
/-- the script, which nothing writes -/
def Scr (S : RS) (a : Addr) (xs : List V) : Prop := (∃ o, S.H a = some (.frz o (.lst xs)) ∧ ¬ Live S a) ∨ KL S.K a xs
theorem Scr.sq {S : RS} {a : Addr} {xs : List V} (h : Scr S a xs) : SqL S.K S.H a xs := by
  rcases h with ⟨o, h, _⟩ | h
  · exact .inl (.inr ⟨o, h⟩)
  · exact .inr h
def FzT (S : RS) (a : Addr) (xs : List V) : Prop := (Rd S.H a (.tup xs) ∧ ¬ Live S a) ∨ KT S.K a xs
def FzD (S : RS) (a : Addr) (kvs : List (Key × V)) : Prop := S.H a = some (.dK kvs) ∧ ¬ Live S a
theorem FzL.sq {S : RS} {a : Addr} {xs : List V} (h : FzL S a xs) : SqL S.K S.H a xs := .inl (.inl h.1)
theorem FzT.sq {S : RS} {a : Addr} {xs : List V} (h : FzT S a xs) : SqT S.K S.H a xs := h.imp And.left id
mutual
def Rel (S : RS) : Val → V → Prop
  | .none, x => x = .non
  | .bool b, x => x = .bl b
  | .int i, x => x = .int i
  | .str s, x => x = .str (toS s) ∧ asc s = true
  | .tup xs, x => ∃ a vs, x = .ref a ∧ FzT S a vs ∧ Rels S xs vs
  | .list xs, x => ∃ a vs, x = .ref a ∧ FzL S a vs ∧ Rels S xs vs
  | .dict ks vs, x => ∃ a kvs, x = .ref a ∧ FzD S a kvs ∧ Rels S ks (kvs.map fun p => kV p.1) ∧ Rels S vs (kvs.map Prod.snd)
  | .obj _ _ _, _ => False
  | .ref n, x => ∃ a, S.r[n]? = some a ∧ x = .ref a
  | .fn _, _ => False
  | .cls _, _ => False
  | .ty _, _ => False
  | .scr xs, x => ∃ a vs, x = .ref a ∧ Scr S a vs ∧ Rels S xs vs
def Rels (S : RS) : List Val → List V → Prop
  | [], vs => vs = []
  | v :: r, vs => ∃ x t, vs = x :: t ∧ Rel S v x ∧ Rels S r t
end
def ORel (S : RS) (a : Addr) : Obj → Prop
  | .dead => ∃ o, S.H a = some o
  | .list xs => ∃ vs, S.H a = some (.lst vs) ∧ Rels S xs vs
  | .dict _ _ => False
  | .inst _ _ _ => False
structure Good (S : RS) : Prop where
  len : S.r.length = S.h.length
  nd : S.r.Nodup
  obj : ∀ (i : Nat) (o : Obj) (a : Addr), S.h[i]? = some o → S.r[i]? = some a → ORel S a o
  ow : ∀ a ∈ S.own, (∃ o, S.H a = some o) ∧ a ∉ S.r
structure Ext (S S' : RS) : Prop where
  K : S'.K = S.K
  pre : ∃ t, S'.r = S.r ++ t
  keep : ∀ a o, S.H a = some o → ¬ Live S a → S'.H a = some o ∧ ¬ Live S' a
  sub : ∀ a ∈ S.own, a ∈ S'.own
  kow : ∀ a o, a ∈ S.own → S.H a = some o → S'.H a = some o
theorem Ext.refl {S : RS} : Ext S S := ⟨rfl, ⟨[], by simp⟩, fun _ _ e n => ⟨e, n⟩, fun _ h => h, fun _ _ _ e => e⟩
theorem Ext.trans {S S' S'' : RS} (a : Ext S S') (b : Ext S' S'') : Ext S S'' :=
  ⟨b.K.trans a.K, by obtain ⟨t, e⟩ := a.pre; obtain ⟨u, f⟩ := b.pre; exact ⟨t ++ u, by rw [f, e, List.append_assoc]⟩,
   fun x o e n => let ⟨e1, n1⟩ := a.keep x o e n; b.keep x o e1 n1, fun x m => b.sub x (a.sub x m),
   fun x o m e => b.kow x o (a.sub x m) (a.kow x o m e)⟩
theorem Ext.rd {S S' : RS} (e : Ext S S') {a : Addr} {u : HO} (h : Rd S.H a u) (n : ¬ Live S a) : Rd S'.H a u ∧ ¬ Live S' a := by
  rcases h with h | ⟨o, h⟩
  · obtain ⟨h1, n1⟩ := e.keep _ _ h n; exact ⟨.inl h1, n1⟩
  · obtain ⟨h1, n1⟩ := e.keep _ _ h n; exact ⟨.inr ⟨o, h1⟩, n1⟩
theorem Ext.fzL {S S' : RS} (e : Ext S S') {a : Addr} {xs : List V} (h : FzL S a xs) : FzL S' a xs := e.keep _ _ h.1 h.2
theorem Ext.fzD {S S' : RS} (e : Ext S S') {a : Addr} {kvs : List (Key × V)} (h : FzD S a kvs) : FzD S' a kvs := e.keep _ _ h.1 h.2
theorem Ext.scr {S S' : RS} (e : Ext S S') {a : Addr} {xs : List V} (h : Scr S a xs) : Scr S' a xs := by
  rcases h with ⟨o, h, n⟩ | h
  · exact .inl ⟨o, e.keep _ _ h n⟩
  · exact .inr (by rw [e.K]; exact h)
theorem Ext.fzT {S S' : RS} (e : Ext S S') {a : Addr} {xs : List V} (h : FzT S a xs) : FzT S' a xs := by
  rcases h with ⟨h, n⟩ | h
  · exact .inl (e.rd h n)
  · exact .inr (by rw [e.K]; exact h)
theorem Ext.at {S S' : RS} (e : Ext S S') {n : Nat} {a : Addr} (h : S.r[n]? = some a) : S'.r[n]? = some a := by
  obtain ⟨t, q⟩ := e.pre
  rw [q, List.getElem?_append_left (List.getElem?_eq_some_iff.mp h).1]; exact h
mutual
theorem Rel.ext {S S' : RS} (e : Ext S S') : ∀ {v : Val} {x : V}, Rel S v x → Rel S' v x
  | .none, _, h => h
  | .bool _, _, h => h
  | .int _, _, h => h
  | .str _, _, h => h
  | .tup xs, x, h => by
    obtain ⟨a, vs, h1, h2, h3⟩ := h
    exact ⟨a, vs, h1, e.fzT h2, Rels.ext e h3⟩
  | .list xs, x, h => by
    obtain ⟨a, vs, h1, h2, h3⟩ := h
    exact ⟨a, vs, h1, e.fzL h2, Rels.ext e h3⟩
  | .dict ks vs, _, h => by
    obtain ⟨a, kvs, h1, h2, h3, h4⟩ := h
    exact ⟨a, kvs, h1, e.fzD h2, Rels.ext e h3, Rels.ext e h4⟩
  | .obj _ _ _, _, h => h.elim
  | .ref n, x, h => by
    obtain ⟨a, h1, h2⟩ := h
    exact ⟨a, e.at h1, h2⟩
  | .fn _, _, h => h.elim
  | .cls _, _, h => h.elim
  | .ty _, _, h => h.elim
  | .scr xs, x, h => by
    obtain ⟨a, vs, h1, h2, h3⟩ := h
    exact ⟨a, vs, h1, e.scr h2, Rels.ext e h3⟩
theorem Rels.ext {S S' : RS} (e : Ext S S') : ∀ {vs : List Val} {xs : List V}, Rels S vs xs → Rels S' vs xs
  | [], _, h => h
  | v :: r, xs, h => by
    obtain ⟨x, t, h1, h2, h3⟩ := h
    exact ⟨x, t, h1, Rel.ext e h2, Rels.ext e h3⟩
end
theorem Rels.len {S : RS} : ∀ {vs : List Val} {xs : List V}, Rels S vs xs → vs.length = xs.length
  | [], _, h => by cases h; rfl
  | v :: r, xs, h => by
    obtain ⟨x, t, rfl, _, h3⟩ := h
    simp [Rels.len h3]
theorem Rels.get {S : RS} : ∀ {vs : List Val} {xs : List V} {i : Nat} {v : Val}, Rels S vs xs → vs[i]? = some v → ∃ x, xs[i]? = some x ∧ Rel S v x
  | [], _, _, _, _, h => by simp at h
  | v :: r, xs, 0, w, h, e => by
    obtain ⟨x, t, rfl, h2, h3⟩ := h
    simp at e; subst e; exact ⟨x, rfl, h2⟩
  | v :: r, xs, i + 1, w, h, e => by
    obtain ⟨x, t, rfl, h2, h3⟩ := h
    simp at e
    obtain ⟨y, e1, e2⟩ := Rels.get (i := i) h3 e
    exact ⟨y, by simpa using e1, e2⟩
theorem Rels.app {S : RS} : ∀ {vs ws : List Val} {xs ys : List V}, Rels S vs xs → Rels S ws ys → Rels S (vs ++ ws) (xs ++ ys)
  | [], _, _, _, h, h' => by cases h; exact h'
  | v :: r, ws, xs, ys, h, h' => by
    obtain ⟨x, t, rfl, h2, h3⟩ := h
    exact ⟨x, t ++ ys, rfl, h2, Rels.app h3 h'⟩
theorem Rels.one {S : RS} {v : Val} {x : V} (h : Rel S v x) : Rels S [v] [x] := ⟨x, [], rfl, h, rfl⟩
theorem Rels.take {S : RS} : ∀ {vs : List Val} {xs : List V} (n : Nat), Rels S vs xs → Rels S (vs.take n) (xs.take n)
  | [], _, n, h => by cases h; simp [Rels]
  | v :: r, xs, 0, h => by simp [Rels]
  | v :: r, xs, n + 1, h => by
    obtain ⟨x, t, rfl, h2, h3⟩ := h
    exact ⟨x, t.take n, rfl, h2, Rels.take n h3⟩
theorem Rels.drop {S : RS} : ∀ {vs : List Val} {xs : List V} (n : Nat), Rels S vs xs → Rels S (vs.drop n) (xs.drop n)
  | [], _, n, h => by cases h; simp [Rels]
  | v :: r, xs, 0, h => by simpa using h
  | v :: r, xs, n + 1, h => by
    obtain ⟨x, t, rfl, h2, h3⟩ := h
    simpa using Rels.drop n h3
theorem Rels.rev {S : RS} : ∀ {vs : List Val} {xs : List V}, Rels S vs xs → Rels S vs.reverse xs.reverse
  | [], _, h => by cases h; simp [Rels]
  | v :: r, xs, h => by
    obtain ⟨x, t, rfl, h2, h3⟩ := h
    rw [List.reverse_cons, List.reverse_cons]
    exact (Rels.rev h3).app (.one h2)
theorem Rels.set {S : RS} {v : Val} {x : V} (hv : Rel S v x) : ∀ {vs : List Val} {xs : List V} (n : Nat), Rels S vs xs → Rels S (vs.set n v) (xs.set n x)
  | [], _, n, h => by cases h; simp [Rels]
  | w :: r, xs, 0, h => by
    obtain ⟨y, t, rfl, h2, h3⟩ := h
    exact ⟨x, t, rfl, hv, h3⟩
  | w :: r, xs, n + 1, h => by
    obtain ⟨y, t, rfl, h2, h3⟩ := h
    exact ⟨y, t.set n x, rfl, h2, Rels.set hv n h3⟩
theorem Rels.erase {S : RS} : ∀ {vs : List Val} {xs : List V} (n : Nat), Rels S vs xs → Rels S (vs.eraseIdx n) (xs.eraseIdx n)
  | [], _, n, h => by cases h; simp [Rels]
  | w :: r, xs, 0, h => by
    obtain ⟨y, t, rfl, h2, h3⟩ := h
    exact h3
  | w :: r, xs, n + 1, h => by
    obtain ⟨y, t, rfl, h2, h3⟩ := h
    exact ⟨y, t.eraseIdx n, rfl, h2, Rels.erase n h3⟩
theorem Rels.init {S : RS} : ∀ {vs : List Val} {xs : List V}, Rels S vs xs → Rels S vs.dropLast xs.dropLast
  | [], _, h => by cases h; simp [Rels]
  | [v], xs, h => by
    obtain ⟨y, t, rfl, h2, h3⟩ := h
    cases h3; simp [Rels]
  | v :: w :: r, xs, h => by
    obtain ⟨y, t, rfl, h2, h3⟩ := h
    have h4 := Rels.init h3
    obtain ⟨z, u, rfl, _, _⟩ := h3
    exact ⟨y, (z :: u).dropLast, rfl, h2, h4⟩
/-! ### slots -/
structure LRel (S : RS) (ls : Loc) (σ : L2.St) : Prop where
  len : ls.length = σ.length
  at_ : ∀ (i : Nat) (v : Val), ls[i]? = some (some v) → ∃ x, σ[i]? = some (some x) ∧ Rel S v x
theorem LRel.ext {S S' : RS} {ls : Loc} {σ : L2.St} (l : LRel S ls σ) (e : Ext S S') : LRel S' ls σ :=
  ⟨l.len, fun i v h => let ⟨x, h1, h2⟩ := l.at_ i v h; ⟨x, h1, h2.ext e⟩⟩
theorem LRel.set {S : RS} {ls : Loc} {σ : L2.St} (l : LRel S ls σ) {v : Val} {x : V} (h : Rel S v x) (i : Nat) : LRel S (ls.set i (some v)) (σ.set i (some x)) := by
  refine ⟨by simpa using l.len, fun j w e => ?_⟩
  by_cases hj : i = j
  · subst hj
    by_cases hi : i < ls.length
    · rw [List.getElem?_set_self hi] at e
      cases e
      exact ⟨x, List.getElem?_set_self (by rw [← l.len]; exact hi), h⟩
    · rw [List.getElem?_eq_none (by simpa using Nat.le_of_not_lt hi)] at e; cases e
  · rw [List.getElem?_set_ne hj] at e
    obtain ⟨y, e1, e2⟩ := l.at_ j w e
    exact ⟨y, by rw [List.getElem?_set_ne hj]; exact e1, e2⟩
theorem LRel.nul {S : RS} {ls : Loc} {σ : L2.St} (l : LRel S ls σ) (i : Nat) : LRel S (ls.set i none) σ := by
  refine ⟨by simpa using l.len, fun j w e => ?_⟩
  by_cases hj : i = j
  · subst hj
    by_cases hi : i < ls.length
    · rw [List.getElem?_set_self hi] at e; cases e
    · rw [List.getElem?_eq_none (by simpa using Nat.le_of_not_lt hi)] at e; cases e
  · rw [List.getElem?_set_ne hj] at e
    exact l.at_ j w e
theorem LRel.nul2 {S : RS} {ls : Loc} {σ : L2.St} (l : LRel S ls σ) (i : Nat) : LRel S (ls.set i none) (σ.set i none) := by
  refine ⟨by simpa using l.len, fun j w e => ?_⟩
  by_cases hj : i = j
  · subst hj
    by_cases hi : i < ls.length
    · rw [List.getElem?_set_self hi] at e; cases e
    · rw [List.getElem?_eq_none (by simpa using Nat.le_of_not_lt hi)] at e; cases e
  · rw [List.getElem?_set_ne hj] at e
    obtain ⟨y, e1, e2⟩ := l.at_ j w e
    exact ⟨y, by rw [List.getElem?_set_ne hj]; exact e1, e2⟩
theorem LRel.kill {S : RS} {σ : L2.St} : ∀ (is : List Nat) {ls : Loc}, LRel S ls σ → LRel S (killL is ls) σ
  | [], _, l => l
  | i :: r, ls, l => LRel.kill r (l.nul i)

/-! ### what may happen to the state -/
theorem Good.hso {S : RS} (g : Good S) {i : Nat} {a : Addr} (h : S.r[i]? = .some a) : ∃ o, S.H a = .some o := by
  have hi : i < S.h.length := by rw [← g.len]; exact (List.getElem?_eq_some_iff.mp h).1
  have e : S.h[i]? = .some (S.h[i]) := List.getElem?_eq_getElem hi
  have q := g.obj i _ a e h
  cases ho : S.h[i] with
  | dead => rw [ho] at q; exact q
  | list xs => rw [ho] at q; obtain ⟨vs, q, _⟩ := q; exact ⟨_, q⟩
  | dict _ _ => rw [ho] at q; exact q.elim
  | inst _ _ _ => rw [ho] at q; exact q.elim
theorem ORel.ext {S S' : RS} (e : Ext S S') {a : Addr} {o : Obj} (hl : ∀ u, S.H a = .some u → S'.H a = .some u) (h : ORel S a o) : ORel S' a o := by
  cases o with
  | dead => obtain ⟨u, h⟩ := h; exact ⟨u, hl u h⟩
  | list xs => obtain ⟨vs, h1, h2⟩ := h; exact ⟨vs, hl _ h1, h2.ext e⟩
  | dict _ _ => exact h
  | inst _ _ _ => exact h
/-- a new thing that is not a mutable object -/
def RS.put (S : RS) (p : Addr) (o : HO) : RS := { S with H := upd S.H p o }
theorem live_put {S : RS} {p : Addr} {o : HO} {a : Addr} : Live (S.put p o) a ↔ Live S a := Iff.rfl
theorem Good.notLive {S : RS} (g : Good S) {p : Addr} (n : S.H p = none) : ¬ Live S p := fun l => by
  rcases l with ⟨i, o, h1, _, _⟩ | l
  · obtain ⟨u, e⟩ := g.hso h1
    rw [n] at e; cases e
  · obtain ⟨⟨u, e⟩, _⟩ := g.ow p l
    rw [n] at e; cases e
theorem ext_put {S : RS} {p : Addr} {o : HO} (n : S.H p = none) : Ext S (S.put p o) :=
  ⟨rfl, ⟨[], by simp [RS.put]⟩, fun a u e nl => ⟨by show upd S.H p o a = _; rw [upd_ne (ne_of_none e n)]; exact e, nl⟩, fun _ h => h, fun a u _ e => by show upd S.H p o a = _; rw [upd_ne (ne_of_none e n)]; exact e⟩
theorem good_put {S : RS} (g : Good S) {p : Addr} {o : HO} (n : S.H p = none) : Good (S.put p o) :=
  ⟨g.len, g.nd, fun i u a h1 h2 => (g.obj i u a h1 h2).ext (ext_put n) fun w e => by show upd S.H p o a = _; rw [upd_ne (ne_of_none e n)]; exact e,
   fun a m => let ⟨⟨u, e⟩, z⟩ := g.ow a m; ⟨⟨u, by show upd S.H p o a = _; rw [upd_ne (ne_of_none e n)]; exact e⟩, z⟩⟩
theorem put_at {S : RS} {p : Addr} {o : HO} : (S.put p o).H p = some o := upd_same
theorem rel_tup {S : RS} (g : Good S) {p : Addr} (n : S.H p = none) {vs : List Val} {xs : List V} (h : Rels S vs xs) : Rel (S.put p (.tup xs)) (.tup vs) (.ref p) :=
  ⟨p, xs, rfl, .inl ⟨.inl put_at, g.notLive n⟩, h.ext (ext_put n)⟩
theorem rel_lst {S : RS} (g : Good S) {p : Addr} (n : S.H p = none) {vs : List Val} {xs : List V} (h : Rels S vs xs) : Rel (S.put p (.lst xs)) (.list vs) (.ref p) :=
  ⟨p, xs, rfl, ⟨put_at, g.notLive n⟩, h.ext (ext_put n)⟩
theorem rel_dic {S : RS} (g : Good S) {p : Addr} (n : S.H p = none) {ks vs : List Val} {kvs : List (Key × V)} (h : Rels S ks (kvs.map fun p => kV p.1)) (h' : Rels S vs (kvs.map Prod.snd)) : Rel (S.put p (.dK kvs)) (.dict ks vs) (.ref p) :=
  ⟨p, kvs, rfl, ⟨put_at, g.notLive n⟩, h.ext (ext_put n), h'.ext (ext_put n)⟩
/-- a new mutable object -/
def RS.new (S : RS) (p : Addr) (o : HO) (u : Obj) : RS := { S with r := S.r ++ [p], h := S.h ++ [u], H := upd S.H p o }
theorem live_new {S : RS} (g : Good S) {p : Addr} {o : HO} {u : Obj} {a : Addr} (h : Live (S.new p o u) a) : Live S a ∨ a = p := by
  rcases h with ⟨i, w, h1, h2, h3⟩ | m
  case inr => exact .inl (.inr m)
  have h1' : (S.r ++ [p])[i]? = some a := h1
  have h2' : (S.h ++ [u])[i]? = some w := h2
  by_cases hi : i < S.r.length
  · rw [List.getElem?_append_left hi] at h1'
    rw [List.getElem?_append_left (by rw [← g.len]; exact hi)] at h2'
    exact .inl (.inl ⟨i, w, h1', h2', h3⟩)
  · rw [List.getElem?_append_right (Nat.le_of_not_lt hi)] at h1'
    cases hj : i - S.r.length with
    | zero => rw [hj] at h1'; simp at h1'; exact .inr h1'.symm
    | succ n => rw [hj] at h1'; simp at h1'
theorem ext_new {S : RS} (g : Good S) {p : Addr} {o : HO} {u : Obj} (n : S.H p = none) : Ext S (S.new p o u) :=
  ⟨rfl, ⟨[p], rfl⟩, fun a w e nl => ⟨by show upd S.H p o a = _; rw [upd_ne (ne_of_none e n)]; exact e, fun l => by
    rcases live_new g l with l | rfl
    · exact nl l
    · rw [n] at e; cases e⟩, fun _ h => h, fun a w _ e => by show upd S.H p o a = _; rw [upd_ne (ne_of_none e n)]; exact e⟩
theorem good_new {S : RS} (g : Good S) {p : Addr} {o : HO} {u : Obj} (n : S.H p = none) (hu : ORel (S.new p o u) p u) : Good (S.new p o u) := by
  refine ⟨by simp [RS.new, g.len], ?_, fun i w a h1 h2 => ?_, fun a m => ?_⟩
  case refine_3 =>
    obtain ⟨⟨u, e⟩, z⟩ := g.ow a m
    refine ⟨⟨u, by show upd S.H p o a = _; rw [upd_ne (ne_of_none e n)]; exact e⟩, fun hm => ?_⟩
    have hm' : a ∈ S.r ++ [p] := hm
    rcases List.mem_append.mp hm' with q | q
    · exact z q
    · rw [List.mem_singleton.mp q, n] at e; cases e
  · show (S.r ++ [p]).Nodup
    rw [List.nodup_append]
    refine ⟨g.nd, by simp, fun a ha b hb => ?_⟩
    simp at hb; subst hb
    rintro rfl
    obtain ⟨i, hi⟩ := List.getElem?_of_mem ha
    obtain ⟨v, e⟩ := g.hso hi
    rw [n] at e; cases e
  · have h1' : (S.h ++ [u])[i]? = some w := h1
    have h2' : (S.r ++ [p])[i]? = some a := h2
    by_cases hi : i < S.r.length
    · rw [List.getElem?_append_left hi] at h2'
      rw [List.getElem?_append_left (by rw [← g.len]; exact hi)] at h1'
      exact (g.obj i w a h1' h2').ext (ext_new g n) fun v e => by show upd S.H p o a = _; rw [upd_ne (ne_of_none e n)]; exact e
    · rw [List.getElem?_append_right (Nat.le_of_not_lt hi)] at h2'
      rw [List.getElem?_append_right (by rw [← g.len]; exact Nat.le_of_not_lt hi), ← g.len] at h1'
      cases hj : i - S.r.length with
      | zero =>
        rw [hj] at h1' h2'
        simp at h1' h2'
        subst h1' h2'
        exact hu
      | succ k => rw [hj] at h1'; simp at h1'
theorem rel_new {S : RS} (g : Good S) {p : Addr} {o : HO} {u : Obj} : Rel (S.new p o u) (.ref S.h.length) (.ref p) :=
  ⟨p, by show (S.r ++ [p])[S.h.length]? = _; rw [← g.len]; simp, rfl⟩
/-- a mutable object is changed -/
def RS.mut (S : RS) (n : Nat) (a : Addr) (o : HO) (u : Obj) : RS := { S with h := S.h.set n u, H := upd S.H a o }
theorem Good.inj {S : RS} (g : Good S) {i j : Nat} {a : Addr} (h1 : S.r[i]? = .some a) (h2 : S.r[j]? = .some a) : i = j := by
  obtain ⟨b1, e1⟩ := List.getElem?_eq_some_iff.mp h1
  obtain ⟨b2, e2⟩ := List.getElem?_eq_some_iff.mp h2
  exact (List.getElem_inj g.nd).mp (e1.trans e2.symm)
theorem live_mut {S : RS} {n : Nat} {a : Addr} {o : HO} {u w : Obj} (hw : S.h[n]? = some w) (wd : w ≠ .dead) {b : Addr} (h : Live (S.mut n a o u) b) : Live S b := by
  rcases h with ⟨i, v, h1, h2, h3⟩ | m
  case inr => exact .inr m
  have h2' : (S.h.set n u)[i]? = some v := h2
  by_cases hi : n = i
  · subst hi; exact .inl ⟨n, w, h1, hw, wd⟩
  · rw [List.getElem?_set_ne hi] at h2'; exact .inl ⟨i, v, h1, h2', h3⟩
theorem ext_mut {S : RS} (g : Good S) {n : Nat} {a : Addr} {o : HO} {u w : Obj} (ha : S.r[n]? = some a) (hw : S.h[n]? = some w) (wd : w ≠ .dead) : Ext S (S.mut n a o u) :=
  ⟨rfl, ⟨[], by simp [RS.mut]⟩, fun b v e nl => ⟨by
    show upd S.H a o b = _
    rw [upd_ne (fun z => nl (.inl ⟨n, w, by rw [z]; exact ha, hw, wd⟩))]; exact e, fun l => nl (live_mut hw wd l)⟩, fun _ h => h, fun b v m e => by
    show upd S.H a o b = _
    rw [upd_ne (fun z => (g.ow b m).2 (by rw [z]; exact List.mem_of_getElem? ha))]; exact e⟩
theorem good_mut {S : RS} (g : Good S) {n : Nat} {a : Addr} {o : HO} {u w : Obj} (ha : S.r[n]? = some a) (hw : S.h[n]? = some w) (wd : w ≠ .dead) (hu : ORel (S.mut n a o u) a u) : Good (S.mut n a o u) := by
  refine ⟨by simp [RS.mut, g.len], g.nd, fun i v b h1 h2 => ?_, fun b m => let ⟨⟨v, e⟩, z⟩ := g.ow b m; ⟨⟨v, (ext_mut g ha hw wd).kow b v m e⟩, z⟩⟩
  have h1' : (S.h.set n u)[i]? = some v := h1
  by_cases hi : n = i
  · subst hi
    rw [List.getElem?_set_self (List.getElem?_eq_some_iff.mp hw).1] at h1'
    cases h1'
    rw [show b = a from Option.some.inj (h2.symm.trans ha)]; exact hu
  · rw [List.getElem?_set_ne hi] at h1'
    refine (g.obj i v b h1' h2).ext (ext_mut g ha hw wd) fun x e => ?_
    show upd S.H a o b = _
    rw [upd_ne (fun z => hi (g.inj ha (show S.r[i]? = some a by rw [← z]; exact h2)))]; exact e
/-- a mutable object is frozen -/
def RS.frz (S : RS) (n : Nat) : RS := { S with h := S.h.set n .dead }
theorem not_live_frz {S : RS} (g : Good S) {n : Nat} {a : Addr} (ha : S.r[n]? = some a) : ¬ Live (S.frz n) a := by
  rintro (⟨i, v, h1, h2, h3⟩ | m)
  case inr => exact (g.ow a m).2 (List.mem_of_getElem? ha)
  have e : n = i := g.inj ha h1
  subst e
  have h2' : (S.h.set n Obj.dead)[n]? = some v := h2
  by_cases hn : n < S.h.length
  · rw [List.getElem?_set_self hn] at h2'
    exact h3 (Option.some.inj h2').symm
  · rw [List.getElem?_eq_none (by simpa using Nat.le_of_not_lt hn)] at h2'; cases h2'
theorem live_frz {S : RS} {n : Nat} {b : Addr} (h : Live (S.frz n) b) : Live S b := by
  rcases h with ⟨i, v, h1, h2, h3⟩ | m
  case inr => exact .inr m
  have h2' : (S.h.set n Obj.dead)[i]? = some v := h2
  by_cases hi : n = i
  · subst hi
    by_cases hn : n < S.h.length
    · rw [List.getElem?_set_self hn] at h2'
      exact absurd (Option.some.inj h2').symm h3
    · rw [List.getElem?_eq_none (by simpa using Nat.le_of_not_lt hn)] at h2'; cases h2'
  · rw [List.getElem?_set_ne hi] at h2'; exact .inl ⟨i, v, h1, h2', h3⟩
theorem ext_frz {S : RS} {n : Nat} : Ext S (S.frz n) := ⟨rfl, ⟨[], by simp [RS.frz]⟩, fun b v e nl => ⟨e, fun l => nl (live_frz l)⟩, fun _ h => h, fun _ _ _ e => e⟩
theorem good_frz {S : RS} (g : Good S) {n : Nat} : Good (S.frz n) := by
  refine ⟨by simp [RS.frz, g.len], g.nd, fun i v b h1 h2 => ?_, g.ow⟩
  have h1' : (S.h.set n Obj.dead)[i]? = some v := h1
  by_cases hi : n = i
  · subst hi
    by_cases hn : n < S.h.length
    · rw [List.getElem?_set_self hn] at h1'
      cases h1'
      exact g.hso h2
    · rw [List.getElem?_eq_none (by simpa using Nat.le_of_not_lt hn)] at h1'; cases h1'
  · rw [List.getElem?_set_ne hi] at h1'
    exact (g.obj i v b h1' h2).ext ext_frz fun x e => e
/-! ### a call's end: what was made is dropped -/
mutual
theorem Rel.cutS {S S0 : RS} (hK : S0.K = S.K) (hH : S0.H = S.H) (hl : ∀ a, Live S0 a → Live S a) {n : Nat} (hr : ∀ i a, i < n → S.r[i]? = some a → S0.r[i]? = some a) : ∀ {v : Val} {x : V}, Rel S v x → v.lt n = true → Rel S0 v x
  | .none, _, h, _ => h
  | .bool _, _, h, _ => h
  | .int _, _, h, _ => h
  | .str _, _, h, _ => h
  | .tup xs, x, h, q => by
    obtain ⟨a, vs, h1, h2, h3⟩ := h
    refine ⟨a, vs, h1, ?_, Rels.cutS hK hH hl hr h3 q⟩
    rcases h2 with ⟨h2, n2⟩ | h2
    · exact .inl ⟨by rw [hH]; exact h2, fun l => n2 (hl a l)⟩
    · exact .inr (by rw [hK]; exact h2)
  | .list xs, x, h, q => by
    obtain ⟨a, vs, h1, ⟨h2, n2⟩, h3⟩ := h
    exact ⟨a, vs, h1, ⟨by rw [hH]; exact h2, fun l => n2 (hl a l)⟩, Rels.cutS hK hH hl hr h3 q⟩
  | .dict ks vs, _, h, q => by
    obtain ⟨a, kvs, h1, ⟨h2, n2⟩, h3, h4⟩ := h
    have q' := Bool.and_eq_true_iff.mp q
    exact ⟨a, kvs, h1, ⟨by rw [hH]; exact h2, fun l => n2 (hl a l)⟩, Rels.cutS hK hH hl hr h3 q'.1, Rels.cutS hK hH hl hr h4 q'.2⟩
  | .obj _ _ _, _, h, _ => h.elim
  | .ref m, x, h, q => by
    obtain ⟨a, h1, h2⟩ := h
    exact ⟨a, hr m a (of_decide_eq_true q) h1, h2⟩
  | .fn _, _, h, _ => h.elim
  | .cls _, _, h, _ => h.elim
  | .ty _, _, h, _ => h.elim
  | .scr xs, x, h, q => by
    obtain ⟨a, vs, h1, h2, h3⟩ := h
    refine ⟨a, vs, h1, ?_, Rels.cutS hK hH hl hr h3 q⟩
    rcases h2 with ⟨o, h2, n2⟩ | h2
    · exact .inl ⟨o, by rw [hH]; exact h2, fun l => n2 (hl a l)⟩
    · exact .inr (by rw [hK]; exact h2)
theorem Rels.cutS {S S0 : RS} (hK : S0.K = S.K) (hH : S0.H = S.H) (hl : ∀ a, Live S0 a → Live S a) {n : Nat} (hr : ∀ i a, i < n → S.r[i]? = some a → S0.r[i]? = some a) : ∀ {vs : List Val} {xs : List V}, Rels S vs xs → Val.lts n vs = true → Rels S0 vs xs
  | [], _, h, _ => h
  | v :: r, xs, h, q => by
    obtain ⟨x, t, h1, h2, h3⟩ := h
    have q' := Bool.and_eq_true_iff.mp q
    exact ⟨x, t, h1, Rel.cutS hK hH hl hr h2 q'.1, Rels.cutS hK hH hl hr h3 q'.2⟩
end
mutual
/-- what stands for something needs no later number -/
theorem Rel.lt {S : RS} : ∀ {v : Val} {x : V}, Rel S v x → v.lt S.r.length = true
  | .none, _, _ => rfl
  | .bool _, _, _ => rfl
  | .int _, _, _ => rfl
  | .str _, _, _ => rfl
  | .tup xs, x, h => by
    obtain ⟨a, vs, h1, h2, h3⟩ := h
    exact Rels.lt h3
  | .list xs, x, h => by
    obtain ⟨a, vs, h1, h2, h3⟩ := h
    exact Rels.lt h3
  | .dict _ _, _, h => by
    obtain ⟨a, kvs, h1, h2, h3, h4⟩ := h
    exact Bool.and_eq_true_iff.mpr ⟨Rels.lt h3, Rels.lt h4⟩
  | .obj _ _ _, _, h => h.elim
  | .ref m, x, h => by
    obtain ⟨a, h1, h2⟩ := h
    exact decide_eq_true (List.getElem?_eq_some_iff.mp h1).1
  | .fn _, _, h => h.elim
  | .cls _, _, h => h.elim
  | .ty _, _, h => h.elim
  | .scr xs, x, h => by
    obtain ⟨a, vs, h1, h2, h3⟩ := h
    exact Rels.lt h3
theorem Rels.lt {S : RS} : ∀ {vs : List Val} {xs : List V}, Rels S vs xs → Val.lts S.r.length vs = true
  | [], _, _ => rfl
  | v :: r, xs, h => by
    obtain ⟨x, t, h1, h2, h3⟩ := h
    exact Bool.and_eq_true_iff.mpr ⟨Rel.lt h2, Rels.lt h3⟩
end
theorem ORel.lt {S : RS} {a : Addr} {o : Obj} (h : ORel S a o) : o.lt S.r.length = true := by
  cases o with
  | dead => rfl
  | list xs => obtain ⟨vs, _, h⟩ := h; exact h.lt
  | dict _ _ => exact h.elim
  | inst _ _ _ => exact h.elim
theorem osame_eq {o u : Obj} (h : Obj.same o u = true) : o = u := by
  cases o <;> cases u <;> simp [Obj.same] at h
  · rfl
  · rw [sames_eq h]
  · rw [sames_eq h.1, sames_eq h.2]
  · rw [h.1.1, h.1.2, sames_eq h.2]
theorem okDrop_at {n : Nat} : ∀ {h h' : Heap}, okDrop n h h' = true → h.length ≤ h'.length ∧ ∀ (i : Nat) (o o' : Obj), h[i]? = some o → h'[i]? = some o' → o = o' ∨ o'.lt n = true
  | [], _, _ => ⟨Nat.zero_le _, fun i o o' e => by simp at e⟩
  | o :: h, [], q => by cases q
  | o :: h, o' :: h', q => by
    have q' := Bool.and_eq_true_iff.mp (show ((Obj.same o o' || o'.lt n) && okDrop n h h') = true from q)
    obtain ⟨l, a⟩ := okDrop_at q'.2
    refine ⟨Nat.succ_le_succ l, fun i u u' e e' => ?_⟩
    cases i with
    | zero =>
      simp at e e'
      subst e e'
      rcases Bool.or_eq_true_iff.mp q'.1 with z | z
      · exact .inl (osame_eq z)
      · exact .inr z
    | succ i => exact a i u u' (by simpa using e) (by simpa using e')
/-- the state behind a call that drops -/
theorem drop_ok {S S' : RS} (g : Good S) (g' : Good S') (e : Ext S S') (q : okDrop S.h.length S.h S'.h = true) : Good { S' with r := S.r, h := S'.h.take S.h.length } ∧ Ext S { S' with r := S.r, h := S'.h.take S.h.length } ∧
    ∀ v x, Rel S' v x → v.lt S.h.length = true → Rel { S' with r := S.r, h := S'.h.take S.h.length } v x := by
  obtain ⟨l, at_⟩ := okDrop_at q
  obtain ⟨t, hp⟩ := e.pre
  have hl : ∀ a, Live { S' with r := S.r, h := S'.h.take S.h.length } a → Live S' a := fun a l => l.elim (fun ⟨i, o, h1, h2, h3⟩ =>
    .inl ⟨i, o, e.at h1, (by
      have h2' : (S'.h.take S.h.length)[i]? = some o := h2
      rw [List.getElem?_take] at h2'
      split at h2'
      · exact h2'
      · exact nomatch h2'), h3⟩) fun m => .inr m
  have hr : ∀ (i : Nat) (a : Addr), i < S.h.length → S'.r[i]? = some a → S.r[i]? = some a := fun i a hi h => by
    rw [hp, List.getElem?_append_left (by rw [g.len]; exact hi)] at h; exact h
  have back : ∀ v x, Rel S' v x → v.lt S.h.length = true → Rel { S' with r := S.r, h := S'.h.take S.h.length } v x := fun v x h k => Rel.cutS (S := S') (S0 := { S' with r := S.r, h := S'.h.take S.h.length }) rfl rfl hl hr h k
  have backs : ∀ v x, Rels S' v x → Val.lts S.h.length v = true → Rels { S' with r := S.r, h := S'.h.take S.h.length } v x := fun v x h k => Rels.cutS (S := S') (S0 := { S' with r := S.r, h := S'.h.take S.h.length }) rfl rfl hl hr h k
  refine ⟨⟨?_, g.nd, fun i o a h1 h2 => ?_, fun a m => ⟨(g'.ow a m).1, fun hm => (g'.ow a m).2 (by obtain ⟨t, q⟩ := e.pre; rw [q]; exact List.mem_append_left _ hm)⟩⟩, ⟨e.K, ⟨[], by simp⟩, fun a o h n => ?_, e.sub, e.kow⟩, back⟩
  · show S.r.length = (S'.h.take S.h.length).length
    rw [List.length_take, g.len]; omega
  · have h1' : (S'.h.take S.h.length)[i]? = some o := h1
    rw [List.getElem?_take] at h1'
    split at h1'
    · rename_i hi
      have q1 := g'.obj i o a h1' (e.at h2)
      have lt : o.lt S.h.length = true := by
        have hi' : S.h[i]? = some S.h[i] := List.getElem?_eq_getElem hi
        rcases at_ i _ o hi' h1' with z | z
        · rw [← z]
          have z2 := (g.obj i _ a hi' h2).lt
          rw [g.len] at z2; exact z2
        · exact z
      cases o with
      | dead => exact q1
      | list xs => obtain ⟨vs, q2, q3⟩ := q1; exact ⟨vs, q2, backs _ _ q3 lt⟩
      | dict _ _ => exact q1
      | inst _ _ _ => exact q1
    · cases h1'
  · obtain ⟨h1, n1⟩ := e.keep a o h n
    exact ⟨h1, fun z => n1 (hl a z)⟩
end M
namespace M
open PySem PySem.Spec PyProof.Rows L2
/-- what is wanted of an outcome -/
def PostG {A B : Type} (R : RS → A → B → Prop) (S : RS) (r : Res A) (Q : B → Hp → Prop) : Prop := match r with
  | .ok a h => ∀ S' b, S'.h = h → Good S' → Ext S S' → R S' a b → Q b S'.H
  | .exc _ _ => False
  | .stuck => False
abbrev Post := PostG Rel
theorem PostG.ext {A B : Type} {R : RS → A → B → Prop} {S S' : RS} {r : Res A} {Q : B → Hp → Prop} (p : PostG R S r Q) (e : Ext S S') : PostG R S' r Q := by
  cases r with
  | ok a h => exact fun S2 b h2 g2 e2 r2 => p S2 b h2 g2 (e.trans e2) r2
  | exc _ _ => exact p
  | stuck => exact p
theorem PostG.bind {A B C D : Type} {R : RS → A → B → Prop} {R' : RS → C → D → Prop} {S : RS} {r : Res A} {g : A → Heap → Res C} {Q : D → Hp → Prop} {Z : B → Hp → Prop} (p : PostG R' S (r.bind g) Q)
    (k : ∀ a b S1, r = .ok a S1.h → Good S1 → Ext S S1 → R S1 a b → PostG R' S1 (g a S1.h) Q → Z b S1.H) : PostG R S r Z := by
  cases r with
  | ok a h =>
    intro S1 b h1 g1 e1 r1
    subst h1
    exact k a b S1 rfl g1 e1 r1 (PostG.ext (r := g a S1.h) p e1)
  | exc _ _ => exact p
  | stuck => exact p
theorem PostG.imp {A B : Type} {R : RS → A → B → Prop} {S : RS} {r : Res A} {Q Q' : B → Hp → Prop} (p : PostG R S r Q) (k : ∀ b H, Q b H → Q' b H) : PostG R S r Q' := by
  cases r with
  | ok a h => exact fun S2 b h2 g2 e2 r2 => k _ _ (p S2 b h2 g2 e2 r2)
  | exc _ _ => exact p
  | stuck => exact p
/-- a value at once -/
theorem PostG.here {A B : Type} {R : RS → A → B → Prop} {S : RS} {a : A} {b : B} {Q : B → Hp → Prop} (p : PostG R S (.ok a S.h) Q) (g : Good S) (r : R S a b) : Q b S.H := p S b rfl g .refl r
/-- the reading of a piece -/
def tG {A B : Type} (K : PySem.W.Frag) (R : RS → A → B → Prop) (f : Loc → Heap → Res A) : L2.St → Hp → (B → Hp → Prop) → Prop := fun σ H Q =>
  ∃ S ls, S.K = K ∧ S.H = H ∧ Good S ∧ LRel S ls σ ∧ PostG R S (f ls S.h) Q
abbrev tM (K : PySem.W.Frag) (f : Loc → Heap → Res Val) : TE := tG K Rel f
def RB (_ : RS) (b c : Bool) : Prop := c = b
abbrev tB (K : PySem.W.Frag) (f : Loc → Heap → Res Bool) : TT := tG K RB f
abbrev tAs (K : PySem.W.Frag) (f : Loc → Heap → Res (List Val)) : TA := tG K Rels f
theorem PE.wk {X : Cx} {e : Expr} {t t' : TE} (h : PE X e t) (w : ∀ σ H Q, t' σ H Q → t σ H Q) : PE X e t' := ⟨fun pins s σ H Q I q => h.run pins s σ H Q I (w σ H Q q)⟩
theorem PT.wk {X : Cx} {e : Expr} {t t' : TT} (h : PT X e t) (w : ∀ σ H Q, t' σ H Q → t σ H Q) : PT X e t' := ⟨fun pins s σ H Q I q => h.run pins s σ H Q I (w σ H Q q)⟩
theorem PW.wk {X : Cx} {e : Expr} {t t' : TT} (h : PW X e t) (w : ∀ σ H Q, t' σ H Q → t σ H Q) : PW X e t' := ⟨fun wh pins s σ H Q I q => h.run wh pins s σ H Q I (w σ H Q q)⟩
theorem PA.wk {X : Cx} {e : List Expr} {t t' : TA} (h : PA X e t) (w : ∀ σ H Q, t' σ H Q → t σ H Q) : PA X e t' := ⟨fun p pins s σ H Q I q => h.run p pins s σ H Q I (w σ H Q q)⟩
theorem PS.wk {X : Cx} {e : Stmt} {t t' : L2.TS} (h : PS X e t) (w : ∀ D σ H, t' D σ H → t D σ H) : PS X e t' := ⟨fun pins s σ H Q I q => h.run pins s σ H Q I (w Q σ H q)⟩
theorem PSs.wk {X : Cx} {e : List Stmt} {t t' : L2.TS} (h : PSs X e t) (w : ∀ D σ H, t' D σ H → t D σ H) : PSs X e t' := ⟨fun pins s σ H Q I q => h.run pins s σ H Q I (w Q σ H q)⟩
/-- first f, then what its outcome asks -/
theorem tG.seq {A B C D : Type} {K : PySem.W.Frag} {R : RS → A → B → Prop} {R' : RS → C → D → Prop} {f : Loc → Heap → Res A} {g : Loc → A → Heap → Res C} {σ : L2.St} {H : Hp} {Q : D → Hp → Prop} {Z : B → Hp → Prop}
    (h : tG K R' (fun ls h => (f ls h).bind (g ls)) σ H Q)
    (k : ∀ a b S1 ls, S1.K = K → Good S1 → LRel S1 ls σ → R S1 a b → PostG R' S1 (g ls a S1.h) Q → Z b S1.H) : tG K R f σ H Z := by
  obtain ⟨S, ls, hK, hH, g0, l0, p⟩ := h
  exact ⟨S, ls, hK, hH, g0, l0, PostG.bind p fun a b S1 _ g1 e1 r1 p1 => k a b S1 ls (e1.K.trans hK) g1 (l0.ext e1) r1 p1⟩
theorem tG.mk {A B : Type} {K : PySem.W.Frag} {R : RS → A → B → Prop} {f : Loc → Heap → Res A} {σ : L2.St} {Q : B → Hp → Prop} {S : RS} {ls : Loc} (hK : S.K = K) (g : Good S) (l : LRel S ls σ) (p : PostG R S (f ls S.h) Q) : tG K R f σ S.H Q :=
  ⟨S, ls, hK, rfl, g, l, p⟩
theorem toS_cps (s : T) : (toS s).cps.toList = s := by simp [toS]
theorem toS_len (s : T) : (toS s).length = s.length := by simp [toS, Str.length]
theorem toS_inj {s t : T} (h : toS s = toS t) : s = t := by
  have e := congrArg (fun z : Str => z.cps.toList) h
  simpa [toS] using e
theorem toS_app (s t : T) : toS s ++ toS t = toS (s ++ t) := by
  show (⟨_⟩ : Str) = ⟨_⟩
  simp [toS]
theorem SL_eq : SL = sizeLine := by first | rfl | (rw [sizeLine_eq]; rfl)
/-! ### names and constants -/
section
variable {X : Cx}
/-- a constant's value -/
def cV : Val → Option V
  | .none => some .non
  | .bool b => some (.bl b)
  | .int i => some (.int i)
  | .str s => if asc s then some (.str (toS s)) else none
  | _ => none
theorem cV_rel {S : RS} {v : Val} {x : V} (h : cV v = some x) : Rel S v x := by
  cases v with
  | none => cases h; rfl
  | bool b => cases h; rfl
  | int i => cases h; rfl
  | str s =>
    unfold cV at h
    simp only at h
    split at h
    · rename_i ha; cases h; exact ⟨rfl, ha⟩
    · cases h
  | _ => cases h
theorem pe_lit {e : Expr} {v : Val} {x : V} (h : PE X e (tC x)) (hv : cV v = some x) : PE X e (tM X.K fun _ h => .ok v h) := by
  refine PE.wk h fun σ H Q q => ?_
  obtain ⟨S, ls, hK, hH, g, l, p⟩ := q
  subst hH
  exact PostG.here p g (cV_rel hv)
theorem pe_vr {i : Nat} {x : Str} {pos : Pos} (hN : X.N[i]? = some x) (hv : Vis X.env.scope x) (hd : (x == ("__debug__" : Str)) = false) (hcd : (x == ("__classdict__" : Str)) = false) :
    PE X (.Name x pos) (tM X.K fun ls h => match ls[i]? with
      | some (some v) => .ok v h
      | _ => .stuck) := by
  refine PE.wk (pe_var hN hv hd hcd) fun σ H Q q => ?_
  obtain ⟨S, ls, hK, hH, g, l, p⟩ := q
  subst hH
  simp only at p
  cases e : ls[i]? with
  | none => rw [e] at p; exact p.elim
  | some o =>
    cases o with
    | none => rw [e] at p; exact p.elim
    | some v =>
      rw [e] at p
      obtain ⟨y, e1, r⟩ := l.at_ i v e
      exact ⟨y, e1, PostG.here p g r⟩
/-! ### arguments -/
theorem pa_nilM : PA X [] (tAs X.K fun _ h => .ok [] h) := by
  refine PA.wk pa_nil fun σ H Q q => ?_
  obtain ⟨S, ls, hK, hH, g, l, p⟩ := q
  subst hH
  exact PostG.here p g (show Rels S [] [] from rfl)
theorem pa_consM {e : Expr} {es : List Expr} {f : Loc → Heap → Res Val} {fs : Loc → Heap → Res (List Val)} (ha : PE X e (tM X.K f)) (hr : PA X es (tAs X.K fs)) (hs : starEach (e :: es) X.env = (false, eval e X.env) :: starEach es X.env) :
    PA X (e :: es) (tAs X.K fun ls h => (f ls h).bind fun v h => (fs ls h).bind fun vs h => .ok (v :: vs) h) := by
  refine PA.wk (pa_cons ha hr hs) fun σ H Q q => ?_
  refine tG.seq (g := fun ls v h => (fs ls h).bind fun vs h => .ok (v :: vs) h) q fun v x S1 ls hK g1 l1 r1 p1 => ?_
  exact tG.mk hK g1 l1 (PostG.bind p1 fun vs xs S2 _ g2 e2 r2 p2 => PostG.here p2 g2 ⟨x, xs, rfl, r1.ext e2, r2⟩)
end
end M
namespace M
open PySem PySem.Spec PyProof.Rows L2
/-! ### what the parts of an operation are -/
def LstAt (S : RS) (x : V) (xs : List Val) : Prop := ∃ a ys, x = .ref a ∧ S.H a = some (.lst ys) ∧ Rels S xs ys
def TupAt (S : RS) (x : V) (xs : List Val) : Prop := ∃ a ys, x = .ref a ∧ SqT S.K S.H a ys ∧ Rels S xs ys
def DAt (S : RS) (x : V) : Val → Prop
  | .list xs => LstAt S x xs
  | .tup xs => TupAt S x xs
  | .obj _ _ _ => False
  | .ref _ => False
  | w => Rel S w x
theorem dr_rel {S : RS} (g : Good S) {v w : Val} {x : V} (r : Rel S v x) (e : dr S.h v = some w) : DAt S x w := by
  cases v with
  | none => cases e; exact r
  | bool _ => cases e; exact r
  | int _ => cases e; exact r
  | str _ => cases e; exact r
  | tup xs =>
    cases e
    obtain ⟨a, ys, rfl, f, r⟩ := r
    exact ⟨a, ys, rfl, f.sq, r⟩
  | list xs =>
    cases e
    obtain ⟨a, ys, rfl, f, r⟩ := r
    exact ⟨a, ys, rfl, f.1, r⟩
  | dict _ _ => cases e; exact r
  | obj _ _ _ => exact r.elim
  | fn _ => exact r.elim
  | cls _ => exact r.elim
  | ty _ => exact r.elim
  | scr xs => cases e; exact r
  | ref n =>
    obtain ⟨a, h1, rfl⟩ := r
    unfold dr at e
    simp only at e
    cases q : S.h[n]? with
    | none => rw [q] at e; cases e
    | some o =>
      rw [q] at e
      have o1 := g.obj n o a q h1
      cases o with
      | dead => cases e
      | list xs =>
        cases e
        obtain ⟨ys, h2, r⟩ := o1
        exact ⟨a, ys, rfl, h2, r⟩
      | dict _ _ => exact o1.elim
      | inst _ _ _ => exact o1.elim
theorem seq_rel {S : RS} (g : Good S) {v : Val} {x : V} {xs : List Val} (r : Rel S v x) (e : seqOf S.h v = some xs) : ∃ a ys, x = .ref a ∧ (S.H a = some (.lst ys) ∨ SqT S.K S.H a ys) ∧ Rels S xs ys := by
  unfold seqOf at e
  cases q : dr S.h v with
  | none => rw [q] at e; cases e
  | some w =>
    rw [q] at e
    have d := dr_rel g r q
    cases w with
    | list zs =>
      cases e
      obtain ⟨a, ys, rfl, h, r⟩ := d
      exact ⟨a, ys, rfl, .inl h, r⟩
    | tup zs =>
      cases e
      obtain ⟨a, ys, rfl, h, r⟩ := d
      exact ⟨a, ys, rfl, .inr h, r⟩
    | _ => cases e
theorem int2_of {S : RS} {a b : Val} {f : Int → Int → Res Val} {Q : VK} (p : Post S (int2 a b f) Q) : ∃ i j, a = .int i ∧ b = .int j ∧ Post S (f i j) Q := by
  cases a with
  | int i =>
    cases b with
    | int j => exact ⟨i, j, rfl, rfl, p⟩
    | _ => exact p.elim
  | _ => exact p.elim
theorem int1_of {S : RS} {a : Val} {f : Int → Res Val} {Q : VK} (p : Post S (int1 a f) Q) : ∃ i, a = .int i ∧ Post S (f i) Q := by
  cases a with
  | int i => exact ⟨i, rfl, p⟩
  | _ => exact p.elim
theorem str1_of {S : RS} {a : Val} {f : T → Res Val} {Q : VK} (p : Post S (str1 a f) Q) : ∃ i, a = .str i ∧ Post S (f i) Q := by
  cases a with
  | str i => exact ⟨i, rfl, p⟩
  | _ => exact p.elim
theorem bool1_of {S : RS} {a : Val} {f : Bool → Res Val} {Q : VK} (p : Post S (bool1 a f) Q) : ∃ i, a = .bool i ∧ Post S (f i) Q := by
  cases a with
  | bool i => exact ⟨i, rfl, p⟩
  | _ => exact p.elim
theorem ref1_of {S : RS} {a : Val} {f : Nat → Res Val} {Q : VK} (p : Post S (ref1 a f) Q) : ∃ i, a = .ref i ∧ Post S (f i) Q := by
  cases a with
  | ref i => exact ⟨i, rfl, p⟩
  | _ => exact p.elim
theorem optB_of {S : RS} {o : Option Bool} {Q : VK} (g : Good S) (p : Post S (optB o S.h) Q) : ∃ b, o = some b ∧ Q (.bl b) S.H := by
  cases o with
  | none => exact p.elim
  | some b => exact ⟨b, rfl, PostG.here p g rfl⟩
theorem optV_of {S : RS} {o : Option Val} {Q : VK} (p : Post S (optV o S.h) Q) : ∃ b, o = some b ∧ Post S (.ok b S.h) Q := by
  cases o with
  | none => exact p.elim
  | some b => exact ⟨b, rfl, p⟩
theorem ite_of {S : RS} {c : Prop} [Decidable c] {r : Res Val} {Q : VK} (p : Post S (if c then r else .stuck) Q) : c ∧ Post S r Q := by
  by_cases h : c
  · rw [if_pos h] at p; exact ⟨h, p⟩
  · rw [if_neg h] at p; exact p.elim
/-- new things -/
theorem new_tup {S : RS} (g : Good S) {vs : List Val} {xs : List V} {Q : VK} (r : Rels S vs xs) (p : Post S (.ok (.tup vs) S.h) Q) {q : Addr} (n : S.H q = none) : Q (.ref q) (upd S.H q (.tup xs)) :=
  p (S.put q (.tup xs)) _ rfl (good_put g n) (ext_put n) (rel_tup g n r)
theorem new_lst {S : RS} (g : Good S) {vs : List Val} {xs : List V} {Q : VK} (r : Rels S vs xs) (p : Post S (.ok (.list vs) S.h) Q) {q : Addr} (n : S.H q = none) : Q (.ref q) (upd S.H q (.lst xs)) :=
  p (S.put q (.lst xs)) _ rfl (good_put g n) (ext_put n) (rel_lst g n r)
theorem new_mut {S : RS} (g : Good S) {vs : List Val} {xs : List V} {Q : VK} (r : Rels S vs xs) (p : Post S (.ok (.ref S.h.length) (S.h ++ [.list vs])) Q) {q : Addr} (n : S.H q = none) : Q (.ref q) (upd S.H q (.lst xs)) :=
  p (S.new q (.lst xs) (.list vs)) _ rfl (good_new g n ⟨xs, upd_same, r.ext (ext_new g n)⟩) (ext_new g n) (rel_new g)
theorem okTup_of {S : RS} {vs : List Val} {Q : VK} (p : Post S (okTup vs S.h) Q) : vs.length ≤ sizeLine ∧ Post S (.ok (.tup vs) S.h) Q := by
  obtain ⟨h, p⟩ := ite_of p
  exact ⟨by rw [← SL_eq]; exact h, p⟩
theorem okList_of {S : RS} (g : Good S) {m : Bool} {vs : List Val} {xs : List V} {Q : VK} (r : Rels S vs xs) (p : Post S (okList m vs S.h) Q) : vs.length ≤ sizeLine ∧ ∀ q, S.H q = none → Q (.ref q) (upd S.H q (.lst xs)) := by
  obtain ⟨h, p⟩ := ite_of p
  refine ⟨by rw [← SL_eq]; exact h, fun q n => ?_⟩
  cases m with
  | true => exact new_mut g r p n
  | false => exact new_lst g r p n
/-- a value that stands -/
theorem old_val {S : RS} (g : Good S) {v : Val} {x : V} {Q : VK} (r : Rel S v x) (p : Post S (.ok v S.h) Q) : Q x S.H := PostG.here p g r
theorem old_int {S : RS} (g : Good S) {i : Int} {Q : VK} (p : Post S (.ok (.int i) S.h) Q) : Q (.int i) S.H := old_val g (v := .int i) (x := .int i) rfl p
theorem old_bl {S : RS} (g : Good S) {i : Bool} {Q : VK} (p : Post S (.ok (.bool i) S.h) Q) : Q (.bl i) S.H := old_val g (v := .bool i) (x := .bl i) rfl p
theorem old_non {S : RS} (g : Good S) {Q : VK} (p : Post S (.ok .none S.h) Q) : Q .non S.H := old_val g (v := .none) (x := .non) rfl p
theorem old_str {S : RS} (g : Good S) {s : T} {Q : VK} (a : asc s = true) (p : Post S (.ok (.str s) S.h) Q) : Q (.str (toS s)) S.H := old_val g (v := .str s) (x := .str (toS s)) ⟨rfl, a⟩ p
theorem tup_of {S : RS} {a : Addr} {vs : List Val} {xs : List V} (r : Rels S vs xs) (t : FzT S a xs) : Rel S (.tup vs) (.ref a) := ⟨a, xs, rfl, t, r⟩
/-! ### rules of two values -/
def PR2 (X : Cx) (p : P) (r : R2) : Prop := ∀ (S : RS) (v w : Val) (x y : V) (Q : VK), S.K = X.K → Good S → Rel S v x → Rel S w y → Post S (evP p [v, w] S.h) Q → r x y S.H Q
def PR1 (X : Cx) (p : P) (r : V → Hp → VK → Prop) : Prop := ∀ (S : RS) (v : Val) (x : V) (Q : VK), S.K = X.K → Good S → Rel S v x → Post S (evP p [v] S.h) Q → r x S.H Q
section
variable {X : Cx}
def rI2 (C : Int → Int → Prop) (f : Int → Int → Int) : R2 := rI C fun i j => .int (f i j)
theorem pr_sub : PR2 X .sub (rI0 fun i j => .int (i - j)) := fun S v w x y Q hK g rv rw_ p => by
  obtain ⟨i, j, rfl, rfl, p⟩ := int2_of (f := fun i j => .ok (.int (i - j)) S.h) p
  cases rv; cases rw_
  exact ⟨i, j, rfl, rfl, old_int g p⟩
theorem pr_fdiv : PR2 X .fdiv (rI CDiv fun i j => .int (i / j)) := fun S v w x y Q hK g rv rw_ p => by
  obtain ⟨i, j, rfl, rfl, p⟩ := int2_of (f := fun i j => if 0 < j ∧ j < 1073741824 then .ok (.int (i / j)) S.h else .stuck) p
  cases rv; cases rw_
  obtain ⟨c, p⟩ := ite_of p
  exact ⟨i, j, rfl, rfl, c, old_int g p⟩
theorem pr_mod : PR2 X .mod (rI (fun _ j => 0 < j) fun i j => .int (i % j)) := fun S v w x y Q hK g rv rw_ p => by
  obtain ⟨i, j, rfl, rfl, p⟩ := int2_of (f := fun i j => if 0 < j then .ok (.int (i % j)) S.h else .stuck) p
  cases rv; cases rw_
  obtain ⟨c, p⟩ := ite_of p
  exact ⟨i, j, rfl, rfl, c, old_int g p⟩
theorem small_ok {i : Int} (h : small i = true) : -(2 ^ 64) < i ∧ i < 2 ^ 64 := by
  have := of_decide_eq_true h
  omega
theorem pr_pow : PR2 X .pow (rI CPow fun i j => .int (i ^ j.toNat)) := fun S v w x y Q hK g rv rw_ p => by
  obtain ⟨i, j, rfl, rfl, p⟩ := int2_of (f := fun i j => if 0 ≤ j ∧ j ≤ 1000 ∧ small i = true then .ok (.int (i ^ j.toNat)) S.h else .stuck) p
  cases rv; cases rw_
  obtain ⟨⟨c1, c2, c3⟩, p⟩ := ite_of p
  have c4 := small_ok c3
  exact ⟨i, j, rfl, rfl, ⟨c1, by omega, by omega⟩, old_int g p⟩
/-- a + b: numbers, texts, tuples, lists -/
def rAddAll (X : Cx) : R2 := fun x y H Q => ((rI0 fun i j => .int (i + j)) x y H Q ∨ (fun x y H Q => ∃ i j, x = .str i ∧ y = .str j ∧ i.length + j.length ≤ sizeLine ∧ Q (.str (i ++ j)) H) x y H Q) ∨ (rCatA X.K x y H Q ∨ rCat x y H Q)
theorem op_addAll : OpR X (binaryOp .Add) (rAddAll X) := (op_add.or op_add_str).or (op_catA.or op_cat)
theorem asc_iff {s : T} : asc s = true ↔ (∀ c ∈ s, c < 128) ∧ s.length ≤ SL := by
  unfold asc
  rw [Bool.and_eq_true, List.all_eq_true, decide_eq_true_eq]
  exact and_congr_left' (forall_congr' fun c => imp_congr_right fun _ => by rw [decide_eq_true_eq])
theorem asc_app {s t : T} (h : asc s = true) (h' : asc t = true) (l : (s ++ t).length ≤ SL) : asc (s ++ t) = true :=
  asc_iff.mpr ⟨fun c hc => (List.mem_append.mp hc).elim ((asc_iff.mp h).1 c) ((asc_iff.mp h').1 c), l⟩
theorem pr_add : PR2 X .add (rAddAll X) := fun S v w x y Q hK g rv rw_ p => by
  have p : Post S (addV S.h v w) Q := p
  have lists : ∀ xs ys, dr S.h v = some (.list xs) → dr S.h w = some (.list ys) → Post S (okList false (xs ++ ys) S.h) Q → rAddAll X x y S.H Q := fun xs ys e1 e2 p => by
    obtain ⟨a, xa, rfl, ha, ra⟩ := dr_rel g rv e1
    obtain ⟨b, xb, rfl, hb, rb⟩ := dr_rel g rw_ e2
    obtain ⟨z, k⟩ := okList_of g (ra.app rb) p
    exact .inr (.inr ⟨a, b, xa, xb, rfl, rfl, ha, hb, by rw [← ra.len, ← rb.len, ← List.length_append]; exact z, k⟩)
  have gen : ∀ (p : Post S (match dr S.h v, dr S.h w with
    | some (.list xs), some (.list ys) => okList false (xs ++ ys) S.h
    | _, _ => .stuck) Q), rAddAll X x y S.H Q := fun p => by
    cases e1 : dr S.h v with
    | none => rw [e1] at p; exact p.elim
    | some v1 =>
      cases e2 : dr S.h w with
      | none => rw [e1, e2] at p; cases v1 <;> exact p.elim
      | some w1 =>
        rw [e1, e2] at p
        cases v1 with
        | list xs =>
          cases w1 with
          | list ys => exact lists xs ys e1 e2 p
          | _ => exact p.elim
        | _ => exact p.elim
  cases v with
  | int i =>
    cases w with
    | int j => cases rv; cases rw_; exact .inl (.inl ⟨i, j, rfl, rfl, old_int g p⟩)
    | _ => exact gen p
  | str i =>
    cases w with
    | str j =>
      obtain ⟨rfl, a1⟩ := rv
      obtain ⟨rfl, a2⟩ := rw_
      obtain ⟨z, p⟩ := ite_of p
      refine .inl (.inr ⟨_, _, rfl, rfl, ?_, ?_⟩)
      · rw [toS_len, toS_len, ← SL_eq, ← List.length_append]; exact z
      · rw [toS_app]; exact old_str g (asc_app a1 a2 z) p
    | _ => exact gen p
  | tup xs =>
    cases w with
    | tup ys =>
      obtain ⟨a, xa, rfl, fa, ra⟩ := rv
      obtain ⟨b, xb, rfl, fb, rb⟩ := rw_
      obtain ⟨z, p⟩ := okTup_of p
      refine .inr (.inl ⟨a, b, xa, xb, rfl, rfl, ?_, ?_, ?_, fun e => ?_, fun _ e => ?_, fun _ _ q n => new_tup g (ra.app rb) p n⟩)
      · rw [← hK]; exact fa.sq
      · rw [← hK]; exact fb.sq
      · rw [← ra.len, ← rb.len, ← List.length_append]; exact z
      · subst e
        have e0 : xs = [] := List.length_eq_zero_iff.mp ra.len
        subst e0
        exact old_val g (tup_of (by simpa using rb) fb) p
      · subst e
        have e0 : ys = [] := List.length_eq_zero_iff.mp rb.len
        subst e0
        exact old_val g (tup_of (by simpa using ra) fa) p
    | _ => exact gen p
  | _ => exact gen p

theorem pr_addm : PR2 X .addm (rAddAll X) := fun S v w x y Q hK g rv rw_ p => by
  have p : Post S (addM S.h v w) Q := p
  unfold addM at p
  cases e1 : dr S.h v with
  | none => rw [e1] at p; exact p.elim
  | some v1 =>
    cases e2 : dr S.h w with
    | none => rw [e1, e2] at p; cases v1 <;> exact p.elim
    | some w1 =>
      rw [e1, e2] at p
      cases v1 with
      | list xs =>
        cases w1 with
        | list ys =>
          obtain ⟨a, xa, rfl, ha, ra⟩ := dr_rel g rv e1
          obtain ⟨b, xb, rfl, hb, rb⟩ := dr_rel g rw_ e2
          obtain ⟨z, k⟩ := okList_of g (ra.app rb) p
          exact .inr (.inr ⟨a, b, xa, xb, rfl, rfl, ha, hb, by rw [← ra.len, ← rb.len, ← List.length_append]; exact z, k⟩)
        | _ => exact p.elim
      | _ => exact p.elim

/-! ### == -/
mutual
theorem dp_of {S : RS} : ∀ {v : Val} {x : V}, v.flat = true → Rel S v x → Dp S.K S.H x (toPy v)
  | .none, _, _, h => by cases h; exact .non
  | .bool b, _, _, h => by cases h; exact .bl b
  | .int i, _, _, h => by cases h; exact .int i
  | .str s, _, _, h => by obtain ⟨rfl, _⟩ := h; exact .str _
  | .tup xs, _, q, h => by
    obtain ⟨a, vs, rfl, f, r⟩ := h
    exact .tup f.sq (dps_of q r)
  | .list xs, _, q, h => by
    obtain ⟨a, vs, rfl, f, r⟩ := h
    exact .lst f.sq (dps_of q r)
  | .dict _ _, _, q, _ => by cases q
  | .obj _ _ _, _, q, _ => by cases q
  | .ref _, _, q, _ => by cases q
  | .fn _, _, q, _ => by cases q
  | .cls _, _, q, _ => by cases q
  | .ty _, _, q, _ => by cases q
  | .scr _, _, q, _ => by cases q
theorem dps_of {S : RS} : ∀ {vs : List Val} {xs : List V}, Val.flats vs = true → Rels S vs xs → DpAll S.K S.H xs (toPys vs)
  | [], _, _, h => by cases h; exact .nil
  | v :: r, _, q, h => by
    obtain ⟨x, t, rfl, h1, h2⟩ := h
    have q' := Bool.and_eq_true_iff.mp q
    exact .cons (dp_of q'.1 h1) (dps_of q'.2 h2)
end
theorem dp_dr {S : RS} (g : Good S) {v w : Val} {x : V} (r : Rel S v x) (e : dr S.h v = some w) (q : w.flat = true) : Dp S.K S.H x (toPy w) := by
  have d := dr_rel g r e
  cases w with
  | none => exact dp_of q d
  | bool _ => exact dp_of q d
  | int _ => exact dp_of q d
  | str _ => exact dp_of q d
  | list xs =>
    obtain ⟨a, ys, rfl, h, r⟩ := d
    exact .lst (.inl (.inl h)) (dps_of q r)
  | tup xs =>
    obtain ⟨a, ys, rfl, h, r⟩ := d
    exact .tup h (dps_of q r)
  | _ => cases q
end
end M
namespace M
open PySem PySem.Spec PyProof.Rows L2
mutual
theorem eqv_py : ∀ {v w : Val}, v.flat = true → w.flat = true → PyData.eqv (toPy v) (toPy w) = eqv v w
  | .none, w, _, q => by cases w <;> first | rfl | cases q
  | .bool _, w, _, q => by cases w <;> first | rfl | cases q
  | .int _, w, _, q => by cases w <;> first | rfl | cases q
  | .str s, w, _, q => by
    cases w with
    | str t =>
      show (toS s == toS t) = (s == t)
      by_cases e : s = t
      · subst e; simp
      · have : ¬ toS s = toS t := fun z => e (toS_inj z)
        rw [beq_eq_false_iff_ne.mpr e, beq_eq_false_iff_ne.mpr this]
    | none => rfl
    | bool _ => rfl
    | int _ => rfl
    | tup _ => rfl
    | list _ => rfl
    | _ => cases q
  | .tup xs, w, p, q => by
    cases w with
    | tup ys => exact eqvs_py p q
    | none => rfl
    | bool _ => rfl
    | int _ => rfl
    | str _ => rfl
    | list _ => rfl
    | _ => cases q
  | .list xs, w, p, q => by
    cases w with
    | list ys => exact eqvs_py p q
    | none => rfl
    | bool _ => rfl
    | int _ => rfl
    | str _ => rfl
    | tup _ => rfl
    | _ => cases q
  | .dict _ _, _, p, _ => by cases p
  | .obj _ _ _, _, p, _ => by cases p
  | .ref _, _, p, _ => by cases p
  | .fn _, _, p, _ => by cases p
  | .cls _, _, p, _ => by cases p
  | .ty _, _, p, _ => by cases p
  | .scr _, _, p, _ => by cases p
theorem eqvs_py : ∀ {v w : List Val}, Val.flats v = true → Val.flats w = true → PyData.eqvAll (toPys v) (toPys w) = eqvs v w
  | [], w, _, _ => by cases w <;> rfl
  | v :: r, w, p, q => by
    cases w with
    | nil => rfl
    | cons u t =>
      have p' := Bool.and_eq_true_iff.mp p
      have q' := Bool.and_eq_true_iff.mp q
      show (PyData.eqv (toPy v) (toPy u) && PyData.eqvAll (toPys r) (toPys t)) = (eqv v u && eqvs r t)
      rw [eqv_py p'.1 q'.1, eqvs_py p'.2 q'.2]
end
theorem depthKv_le : ∀ {ks vs : List PyData}, PyData.depthKv (ks.zip vs) ≤ max (PyData.depthAll ks) (PyData.depthAll vs)
  | [], vs => by simp [PyData.depthKv]
  | k :: ks, [] => by simp [PyData.depthKv]
  | k :: ks, v :: vs => by
    have := @depthKv_le ks vs
    simp only [List.zip_cons_cons, PyData.depthKv, PyData.depthAll]
    omega
mutual
theorem deep_py : ∀ v : Val, (toPy v).depth ≤ v.deep
  | .none => Nat.le_refl _
  | .bool _ => Nat.le_refl _
  | .int _ => Nat.le_refl _
  | .str _ => Nat.le_refl _
  | .tup xs => Nat.succ_le_succ (deeps_py xs)
  | .list xs => Nat.succ_le_succ (deeps_py xs)
  | .dict ks vs => by
    have h1 := deeps_py ks
    have h2 := deeps_py vs
    have h3 := @depthKv_le (toPys ks) (toPys vs)
    show PyData.depthKv _ + 1 ≤ max _ _ + 1
    omega
  | .obj _ _ _ => Nat.zero_le _
  | .ref _ => Nat.zero_le _
  | .fn _ => Nat.zero_le _
  | .cls _ => Nat.zero_le _
  | .ty _ => Nat.zero_le _
  | .scr _ => Nat.zero_le _
theorem deeps_py : ∀ v : List Val, PyData.depthAll (toPys v) ≤ Val.deeps v
  | [] => Nat.le_refl _
  | v :: r => by
    have h1 := deep_py v
    have h2 := deeps_py r
    show max (toPy v).depth (PyData.depthAll (toPys r)) ≤ max v.deep (Val.deeps r)
    omega
end
theorem asc_ok {s : T} (h : asc s = true) : PyData.strOk (toS s) = true := by
  have h' := (asc_iff.mp h).1
  unfold PyData.strOk toS
  rw [Array.all_eq_true']
  intro c hc
  have := h' c (by simpa using hc)
  exact decide_eq_true (by omega)
mutual
theorem lay_py {S : RS} : ∀ {v : Val} {x : V}, v.flat = true → Rel S v x → (toPy v).canLay0 = true
  | .none, _, _, _ => rfl
  | .bool _, _, _, _ => rfl
  | .int _, _, _, _ => rfl
  | .str s, _, _, h => asc_ok h.2
  | .tup xs, _, q, h => by obtain ⟨a, vs, rfl, f, r⟩ := h; exact lays_py q r
  | .list xs, _, q, h => by obtain ⟨a, vs, rfl, f, r⟩ := h; exact lays_py q r
  | .dict _ _, _, q, _ => by cases q
  | .obj _ _ _, _, q, _ => by cases q
  | .ref _, _, q, _ => by cases q
  | .fn _, _, q, _ => by cases q
  | .cls _, _, q, _ => by cases q
  | .ty _, _, q, _ => by cases q
  | .scr _, _, q, _ => by cases q
theorem lays_py {S : RS} : ∀ {v : List Val} {x : List V}, Val.flats v = true → Rels S v x → PyData.canLayAll0 (toPys v) = true
  | [], _, _, _ => rfl
  | v :: r, _, q, h => by
    obtain ⟨x, t, rfl, h1, h2⟩ := h
    have q' := Bool.and_eq_true_iff.mp q
    exact Bool.and_eq_true_iff.mpr ⟨lay_py q'.1 h1, lays_py q'.2 h2⟩
end
theorem lay_dr {S : RS} (g : Good S) {v w : Val} {x : V} (r : Rel S v x) (e : dr S.h v = some w) (q : w.flat = true) : (toPy w).canLay0 = true := by
  have d := dr_rel g r e
  cases w with
  | none => rfl
  | bool _ => rfl
  | int _ => rfl
  | str _ => exact asc_ok d.2
  | list xs => obtain ⟨a, ys, rfl, h, r⟩ := d; exact lays_py q r
  | tup xs => obtain ⟨a, ys, rfl, h, r⟩ := d; exact lays_py q r
  | _ => cases q
theorem shaped_dr {S : RS} (g : Good S) {v w : Val} {x : V} (r : Rel S v x) (e : dr S.h v = some w) (q : w.flat = true) (d : w.deep ≤ 64) : SeqAt.shaped (toPy w) = true :=
  Bool.and_eq_true_iff.mpr ⟨lay_dr g r e q, decide_eq_true (Nat.le_trans (deep_py _) d)⟩
theorem eqV_of {S : RS} (g : Good S) {v w : Val} {x y : V} {b : Bool} (rv : Rel S v x) (rw_ : Rel S w y) (e : eqV S.h v w = some b) :
    ∃ d d', Dp S.K S.H x d ∧ Dp S.K S.H y d' ∧ SeqAt.shaped d = true ∧ SeqAt.shaped d' = true ∧ PyData.eqv d d' = b := by
  unfold eqV at e
  cases e1 : dr S.h v with
  | none => rw [e1] at e; cases e
  | some v1 =>
    cases e2 : dr S.h w with
    | none => rw [e1, e2] at e; cases e
    | some w1 =>
      rw [e1, e2] at e
      simp only at e
      split at e
      · rename_i c
        simp only [Bool.and_eq_true, decide_eq_true_eq] at c
        obtain ⟨⟨⟨c1, c2⟩, c3⟩, c4⟩ := c
        exact ⟨_, _, dp_dr g rv e1 c1, dp_dr g rw_ e2 c2, shaped_dr g rv e1 c1 c3, shaped_dr g rw_ e2 c2 c4, by rw [eqv_py c1 c2]; exact Option.some.inj e⟩
      · cases e
section
variable {X : Cx}
theorem pr_eq : PR2 X .eq (rEqD X.K) := fun S v w x y Q hK g rv rw_ p => by
  obtain ⟨b, e, q⟩ := optB_of g (o := eqV S.h v w) p
  obtain ⟨d, d', h1, h2, h3, h4, h5⟩ := eqV_of g rv rw_ e
  exact ⟨d, d', by rw [← hK]; exact h1, by rw [← hK]; exact h2, h3, h4, by rw [h5]; exact q⟩
theorem pr_ne : PR2 X .ne (rNeD X.K) := fun S v w x y Q hK g rv rw_ p => by
  obtain ⟨b, e, q⟩ := optB_of g (o := (eqV S.h v w).map (!·)) p
  cases e0 : eqV S.h v w with
  | none => rw [e0] at e; cases e
  | some c =>
    rw [e0] at e
    obtain ⟨d, d', h1, h2, h3, h4, h5⟩ := eqV_of g rv rw_ e0
    exact ⟨d, d', by rw [← hK]; exact h1, by rw [← hK]; exact h2, h3, h4, by rw [h5, show (!c) = b from Option.some.inj e]; exact q⟩
/-! ### order -/
theorem ltT_iff : ∀ {s t : T}, ltT s t = decide (s < t)
  | s, [] => by cases s <;> simp [ltT]
  | [], _ :: _ => by simp [ltT]
  | a :: s, b :: t => by
    unfold ltT
    by_cases h : a < b
    · rw [if_pos h]; exact (decide_eq_true (List.cons_lt_cons_iff.mpr (.inl h))).symm
    · rw [if_neg h]
      by_cases e : a = b
      · subst e
        rw [if_pos rfl, ltT_iff]
        by_cases z : s < t
        · rw [decide_eq_true z]; exact (decide_eq_true (List.cons_lt_cons_iff.mpr (.inr ⟨rfl, z⟩))).symm
        · rw [decide_eq_false z]; refine (decide_eq_false fun q => ?_).symm
          rcases List.cons_lt_cons_iff.mp q with q | ⟨_, q⟩
          · exact h q
          · exact z q
      · rw [if_neg e]; refine (decide_eq_false fun q => ?_).symm
        rcases List.cons_lt_cons_iff.mp q with q | ⟨q, _⟩
        · exact h q
        · exact e q
theorem ltV_of {S : RS} {v w : Val} {x y : V} {b : Bool} (rv : Rel S v x) (rw_ : Rel S w y) (e : ltV v w = some b) :
    (∃ i j, x = .int i ∧ y = .int j ∧ b = decide (i < j)) ∨ ∃ i j : Str, x = .str i ∧ y = .str j ∧ b = decide (i.cps.toList < j.cps.toList) := by
  cases v with
  | int i =>
    cases w with
    | int j => cases rv; cases rw_; cases e; exact .inl ⟨i, j, rfl, rfl, rfl⟩
    | _ => cases e
  | str i =>
    cases w with
    | str j =>
      obtain ⟨rfl, _⟩ := rv; obtain ⟨rfl, _⟩ := rw_; cases e
      exact .inr ⟨_, _, rfl, rfl, by rw [toS_cps, toS_cps, ltT_iff]⟩
    | _ => cases e
  | _ => cases e
def rOrd (f : Int → Int → Bool) (h : List Nat → List Nat → Bool) : R2 := fun x y H Q => (rI0 fun i j => .bl (f i j)) x y H Q ∨ ∃ i j : Str, x = .str i ∧ y = .str j ∧ Q (.bl (h i.cps.toList j.cps.toList)) H
theorem op_ltO : OpR X (compareOp .Lt) (rOrd (fun i j => decide (i < j)) fun s t => decide (s < t)) := op_lt.or op_lt_str
theorem op_leO : OpR X (compareOp .LtE) (rOrd (fun i j => decide (i ≤ j)) fun s t => !decide (t < s)) := op_le.or op_le_str
theorem op_gtO : OpR X (compareOp .Gt) (rOrd (fun i j => decide (j < i)) fun s t => decide (t < s)) := op_gt.or op_gt_str
theorem op_geO : OpR X (compareOp .GtE) (rOrd (fun i j => decide (j ≤ i)) fun s t => !decide (s < t)) := op_ge.or op_ge_str
theorem pr_lt : PR2 X .lt (rOrd (fun i j => decide (i < j)) fun s t => decide (s < t)) := fun S v w x y Q hK g rv rw_ p => by
  obtain ⟨b, e, q⟩ := optB_of g (o := ltV v w) p
  rcases ltV_of rv rw_ e with ⟨i, j, rfl, rfl, rfl⟩ | ⟨i, j, rfl, rfl, rfl⟩
  · exact .inl ⟨i, j, rfl, rfl, q⟩
  · exact .inr ⟨i, j, rfl, rfl, q⟩
theorem pr_gt : PR2 X .gt (rOrd (fun i j => decide (j < i)) fun s t => decide (t < s)) := fun S v w x y Q hK g rv rw_ p => by
  obtain ⟨b, e, q⟩ := optB_of g (o := ltV w v) p
  rcases ltV_of rw_ rv e with ⟨i, j, rfl, rfl, rfl⟩ | ⟨i, j, rfl, rfl, rfl⟩
  · exact .inl ⟨j, i, rfl, rfl, q⟩
  · exact .inr ⟨j, i, rfl, rfl, q⟩
theorem not_lt_int {i j : Int} : (!decide (j < i)) = decide (i ≤ j) := by
  by_cases h : j < i
  · rw [decide_eq_true h, decide_eq_false (by omega)]; rfl
  · rw [decide_eq_false h, decide_eq_true (by omega)]; rfl
theorem pr_le : PR2 X .le (rOrd (fun i j => decide (i ≤ j)) fun s t => !decide (t < s)) := fun S v w x y Q hK g rv rw_ p => by
  obtain ⟨b, e, q⟩ := optB_of g (o := (ltV w v).map (!·)) p
  cases e0 : ltV w v with
  | none => rw [e0] at e; cases e
  | some c =>
    rw [e0] at e
    have e : (!c) = b := Option.some.inj e
    rcases ltV_of rw_ rv e0 with ⟨i, j, rfl, rfl, rfl⟩ | ⟨i, j, rfl, rfl, rfl⟩
    · refine .inl ⟨j, i, rfl, rfl, ?_⟩
      show Q (.bl (decide (j ≤ i))) S.H
      rw [← not_lt_int, e]; exact q
    · refine .inr ⟨j, i, rfl, rfl, ?_⟩
      show Q (.bl (!decide (i.cps.toList < j.cps.toList))) S.H
      rw [e]; exact q
theorem pr_ge : PR2 X .ge (rOrd (fun i j => decide (j ≤ i)) fun s t => !decide (s < t)) := fun S v w x y Q hK g rv rw_ p => by
  obtain ⟨b, e, q⟩ := optB_of g (o := (ltV v w).map (!·)) p
  cases e0 : ltV v w with
  | none => rw [e0] at e; cases e
  | some c =>
    rw [e0] at e
    have e : (!c) = b := Option.some.inj e
    rcases ltV_of rv rw_ e0 with ⟨i, j, rfl, rfl, rfl⟩ | ⟨i, j, rfl, rfl, rfl⟩
    · refine .inl ⟨i, j, rfl, rfl, ?_⟩
      show Q (.bl (decide (j ≤ i))) S.H
      rw [← not_lt_int, e]; exact q
    · refine .inr ⟨i, j, rfl, rfl, ?_⟩
      show Q (.bl (!decide (i.cps.toList < j.cps.toList))) S.H
      rw [e]; exact q
/-! ### in -/
def rInA (X : Cx) (n : Bool) : R2 := fun x y H Q => (∃ (c : Nat) (z : Str), x = .str ⟨#[c]⟩ ∧ y = .str z ∧ Q (.bl (n ^^ decide (c ∈ z.cps.toList))) H) ∨
  ∃ d ds, Dp X.K H x d ∧ (Dp X.K H y (.list ds) ∨ Dp X.K H y (.tuple ds)) ∧ d.canLay0 = true ∧ PyData.canLayAll0 ds = true ∧ d.depth ≤ 64 ∧ Q (.bl (n ^^ (ds.any fun z => PyData.eqv z d))) H
theorem op_inA (hu : X.A.units + 65 < cLine) : OpR X (compareOp .In) (rInA X false) := by
  intro pins s σ H x y v u Q I rx ry h
  rcases h with ⟨c, z, h1, h2, q⟩ | ⟨d, ds, h1, h2, c1, c2, dd, q⟩
  · exact op_in_sign pins s σ H x y v u Q I rx ry ⟨c, z, h1, h2, by rw [Bool.false_xor] at q; exact q⟩
  · rw [Bool.false_xor] at q
    obtain ⟨as, r1⟩ := Dp.reads I d x v h1 rx
    have room : X.A.units + 1 + min (PyData.depthAll ds) d.depth < cLine := by
      have := Nat.min_le_right (PyData.depthAll ds) d.depth
      omega
    rcases h2 with h2 | h2
    · obtain ⟨bs, r2⟩ := Dp.reads I _ y u h2 ry
      exact SeqAt.in_list_reads r2 r1 c2 c1 room ⟨.bl _, H, I, rfl, q⟩
    · obtain ⟨bs, r2⟩ := Dp.reads I _ y u h2 ry
      exact SeqAt.in_tuple_reads r2 r1 c2 c1 room ⟨.bl _, H, I, rfl, q⟩
theorem op_notInA (hu : X.A.units + 65 < cLine) : OpR X (compareOp .NotIn) (rInA X true) := by
  intro pins s σ H x y v u Q I rx ry h
  rcases h with ⟨c, z, h1, h2, q⟩ | ⟨d, ds, h1, h2, c1, c2, dd, q⟩
  · exact op_notIn_sign pins s σ H x y v u Q I rx ry ⟨c, z, h1, h2, by rw [Bool.true_xor] at q; exact q⟩
  · rw [Bool.true_xor] at q
    obtain ⟨as, r1⟩ := Dp.reads I d x v h1 rx
    have room : X.A.units + 1 + min (PyData.depthAll ds) d.depth < cLine := by
      have := Nat.min_le_right (PyData.depthAll ds) d.depth
      omega
    rcases h2 with h2 | h2
    · obtain ⟨bs, r2⟩ := Dp.reads I _ y u h2 ry
      exact SeqAt.notIn_list_reads r2 r1 c2 c1 room ⟨.bl _, H, I, rfl, q⟩
    · obtain ⟨bs, r2⟩ := Dp.reads I _ y u h2 ry
      exact SeqAt.notIn_tuple_reads r2 r1 c2 c1 room ⟨.bl _, H, I, rfl, q⟩
theorem memV_py {v : Val} (q : v.flat = true) : ∀ {l : List Val}, Val.flats l = true → ((toPys l).any fun z => PyData.eqv z (toPy v)) = memV v l
  | [], _ => rfl
  | w :: r, p => by
    have p' := Bool.and_eq_true_iff.mp p
    show (PyData.eqv (toPy w) (toPy v) || (toPys r).any fun z => PyData.eqv z (toPy v)) = (eqv w v || memV v r)
    rw [eqv_py p'.1 q, memV_py q p'.2]
theorem inV_of {S : RS} (hK : S.K = X.K) (g : Good S) {v w : Val} {x y : V} {b n : Bool} {Q : VK} (rv : Rel S v x) (rw_ : Rel S w y) (e : inV S.h v w = some b) (q : Q (.bl (n ^^ b)) S.H) : rInA X n x y S.H Q := by
  unfold inV at e
  cases e1 : dr S.h w with
  | none => rw [e1] at e; cases e
  | some w1 =>
    rw [e1] at e
    have d := dr_rel g rw_ e1
    cases w1 with
    | str z =>
      cases v with
      | str s =>
        cases s with
        | nil => cases e
        | cons c r =>
          cases r with
          | nil =>
            cases e
            obtain ⟨rfl, _⟩ := rv
            obtain ⟨rfl, _⟩ := d
            exact .inl ⟨c, toS z, rfl, rfl, by rw [toS_cps]; exact q⟩
          | cons _ _ => cases e
      | _ => cases e
    | list xs =>
      have e : (if (v.flat && Val.flats xs && decide (v.deep ≤ 64) && decide (Val.deeps xs ≤ 64)) = true then some (memV v xs) else none) = some b := e
      split at e
      · rename_i c
        simp only [Bool.and_eq_true, decide_eq_true_eq] at c
        obtain ⟨⟨⟨c1, c2⟩, c3⟩, c4⟩ := c
        obtain ⟨a, ys, rfl, h, r⟩ := d
        exact .inr ⟨toPy v, toPys xs, by rw [← hK]; exact dp_of c1 rv, .inl (.lst (.inl (.inl h)) (by rw [← hK]; exact dps_of c2 r)), lay_py c1 rv, lays_py c2 r, Nat.le_trans (deep_py _) c3, by rw [memV_py c1 c2, Option.some.inj e]; exact q⟩
      · cases e
    | tup xs =>
      have e : (if (v.flat && Val.flats xs && decide (v.deep ≤ 64) && decide (Val.deeps xs ≤ 64)) = true then some (memV v xs) else none) = some b := e
      split at e
      · rename_i c
        simp only [Bool.and_eq_true, decide_eq_true_eq] at c
        obtain ⟨⟨⟨c1, c2⟩, c3⟩, c4⟩ := c
        obtain ⟨a, ys, rfl, h, r⟩ := d
        exact .inr ⟨toPy v, toPys xs, by rw [← hK]; exact dp_of c1 rv, .inr (.tup (by rw [← hK]; exact h) (by rw [← hK]; exact dps_of c2 r)), lay_py c1 rv, lays_py c2 r, Nat.le_trans (deep_py _) c3, by rw [memV_py c1 c2, Option.some.inj e]; exact q⟩
      · cases e
    | _ => cases e
theorem pr_mem : PR2 X .mem (rInA X false) := fun S v w x y Q hK g rv rw_ p => by
  obtain ⟨b, e, q⟩ := optB_of g (o := inV S.h v w) p
  exact inV_of hK g rv rw_ e (by rw [Bool.false_xor]; exact q)
theorem pr_notmem : PR2 X .notmem (rInA X true) := fun S v w x y Q hK g rv rw_ p => by
  obtain ⟨b, e, q⟩ := optB_of g (o := (inV S.h v w).map (!·)) p
  cases e0 : inV S.h v w with
  | none => rw [e0] at e; cases e
  | some c =>
    rw [e0] at e
    exact inV_of hK g rv rw_ e0 (by rw [Bool.true_xor, show (!c) = b from Option.some.inj e]; exact q)
end
end M
namespace M
open PySem PySem.Spec PyProof.Rows L2
section
variable {X : Cx}
/-! ### products -/
theorem lit_flatten {A : Type} : ∀ (n : Nat) (s : List A), (List.replicate n s.toArray).foldl (· ++ ·) #[] = (List.replicate n s).flatten.toArray := by
  intro n s
  have gen : ∀ (n : Nat) (a : Array A), (List.replicate n s.toArray).foldl (· ++ ·) a = a ++ (List.replicate n s).flatten.toArray := by
    intro n
    induction n with
    | zero => intro a; simp
    | succ n ih => intro a; rw [List.replicate_succ, List.foldl_cons, ih, List.replicate_succ, List.flatten_cons]; simp
  rw [gen]; simp
theorem mul_toS (s : T) {j : Int} : Txt.mul (toS s) j = toS (List.replicate j.toNat s).flatten := by
  unfold Txt.mul
  by_cases h1 : j < 1
  · rw [if_pos h1, show j.toNat = 0 by omega]; rfl
  · rw [if_neg h1]
    by_cases h2 : (j == 1 || (toS s).length == 0) = true
    · rw [if_pos h2]
      rcases Bool.or_eq_true_iff.mp h2 with h2 | h2
      · rw [eq_of_beq h2]; simp
      · have : s.length = 0 := by have := eq_of_beq h2; rw [toS_len] at this; exact this
        rw [List.length_eq_zero_iff.mp this]; simp
    · rw [if_neg h2]
      show (⟨_⟩ : Str) = ⟨_⟩
      rw [show (toS s).cps = s.toArray from rfl, lit_flatten]
theorem asc_rep {s : T} (h : asc s = true) (n : Nat) (l : s.length * n ≤ SL) : asc (List.replicate n s).flatten = true := by
  refine asc_iff.mpr ⟨fun c hc => ?_, ?_⟩
  · obtain ⟨k, h1, h2⟩ := List.mem_flatten.mp hc
    rw [(List.mem_replicate.mp h1).2] at h2
    exact (asc_iff.mp h).1 c h2
  · have : ∀ n : Nat, (List.replicate n s).flatten.length = s.length * n := fun n => by
      induction n with
      | zero => rfl
      | succ n ih => rw [List.replicate_succ, List.flatten_cons, List.length_append, ih, Nat.mul_succ]; omega
    rw [this]; exact l
theorem op_mulS : OpR X (binaryOp .Mult) (fun x y H Q => ∃ (s : Str) (j : Int), x = .str s ∧ y = .int j ∧ s.length * j.toNat ≤ sizeLine ∧ j < 1000000000 ∧ -1000000000 < j ∧ Q (.str (Txt.mul s j)) H) := by
  intro pins s σ H x y v u Q I rx ry h
  obtain ⟨z, j, rfl, rfl, h1, h2, h3, q⟩ := h
  obtain ⟨t, rfl⟩ := rx
  obtain ⟨t', rfl⟩ := ry
  refine SB.mul ⟨?_, fun a b => ?_, fun a b => ?_⟩ fun tk k => ⟨.str _, H, I.tok _, ⟨_, rfl⟩, q⟩
  · rw [decide_eq_false (by omega), decide_eq_false (by omega)]; rfl
  · have hj : (1 : Int) ≤ j := by omega
    have b1 : (z.length : Int) * j ≤ 16777216 := by
      rw [sizeLine_eq] at h1
      have q := Int.ofNat_le.mpr h1
      rw [Int.natCast_mul, Int.toNat_of_nonneg (by omega)] at q
      exact q
    have b2 : (z.length : Int) ≤ (2 ^ 63 - 1) / j := by
      refine (Int.le_ediv_iff_mul_le (by omega)).mpr ?_
      exact Int.le_trans b1 (by decide)
    omega
  · show decide (z.length * j.toNat > sizeLine) = false
    exact decide_eq_false (Nat.not_lt.mpr h1)
def rMulA (X : Cx) : R2 := fun x y H Q => ((rI CMul fun i j => .int (i * j)) x y H Q ∨ (∃ (s : Str) (j : Int), x = .str s ∧ y = .int j ∧ s.length * j.toNat ≤ sizeLine ∧ j < 1000000000 ∧ -1000000000 < j ∧ Q (.str (Txt.mul s j)) H)) ∨
  (rRepT X.K x y H Q ∨ rRep x y H Q)
theorem op_mulA : OpR X (binaryOp .Mult) (rMulA X) := (op_mul.or op_mulS).or (op_repT.or op_rep)

theorem repls_rel {S : RS} {vs : List Val} {xs : List V} (r : Rels S vs xs) : ∀ n : Nat, Rels S (List.replicate n vs).flatten (List.replicate n xs).flatten
  | 0 => rfl
  | n + 1 => by rw [List.replicate_succ, List.replicate_succ, List.flatten_cons, List.flatten_cons]; exact r.app (repls_rel r n)
theorem pr_mul : PR2 X .mul (rMulA X) := fun S v w x y Q hK g rv rw_ p => by
  have p : Post S (mulV S.h v w) Q := p
  cases v with
  | int i =>
    cases w with
    | int j =>
      cases rv; cases rw_
      obtain ⟨c, p⟩ := ite_of p
      refine .inl (.inl ⟨i, j, rfl, rfl, ?_, old_int g p⟩)
      rcases Bool.or_eq_true_iff.mp c with c | c
      · exact .inl (small_ok c)
      · exact .inr (small_ok c)
    | _ => exact p.elim
  | str s =>
    cases w with
    | int j =>
      obtain ⟨rfl, a1⟩ := rv; cases rw_
      obtain ⟨⟨c1, c2, c3⟩, p⟩ := ite_of p
      refine .inl (.inr ⟨_, j, rfl, rfl, by rw [toS_len, ← SL_eq]; exact c1, c2, c3, ?_⟩)
      rw [mul_toS]
      exact old_str g (asc_rep a1 _ c1) p
    | _ => exact p.elim
  | tup xs =>
    cases w with
    | int j =>
      obtain ⟨a, xa, rfl, fa, ra⟩ := rv; cases rw_
      obtain ⟨⟨c1, c2, c3, c4⟩, p⟩ := ite_of p
      refine .inr (.inl ⟨a, j, xa, rfl, rfl, by rw [← hK]; exact fa.sq, fun e => ?_, c2, c3, by rw [← ra.len]; exact c4, fun q n => new_tup g (repls_rel ra _) p n⟩)
      subst e
      rw [List.length_eq_zero_iff.mp ra.len] at c1
      cases c1
    | _ => exact p.elim
  | list xs =>
    cases w with
    | int j =>
      obtain ⟨a, xa, rfl, fa, ra⟩ := rv; cases rw_
      obtain ⟨⟨c1, c2, c3⟩, p⟩ := ite_of p
      exact .inr (.inr ⟨a, j, xa, rfl, rfl, fa.1, by omega, by omega, by rw [← ra.len, ← SL_eq]; exact c1, fun q n => new_lst g (repls_rel ra _) p n⟩)
    | _ => exact p.elim
  | _ => exact p.elim
/-! ### places, cuts -/
theorem ixN_eq : @ixN = @L2.ixN := rfl
theorem atI_rel {S : RS} {vs : List Val} {xs : List V} {i : Int} {v : Val} (r : Rels S vs xs) (e : atI vs i = some v) : ∃ x, L2.atI xs i = some x ∧ Rel S v x := by
  unfold atI at e
  unfold L2.atI
  rw [r.len] at e
  cases q : ixN xs.length i with
  | none => rw [q] at e; cases e
  | some k =>
    rw [q] at e
    have q' : L2.ixN xs.length i = some k := q
    rw [q']
    exact r.get e
theorem pr_ix : PR2 X .ix (rIx X.K) := fun S v w x y Q hK g rv rw_ p => by
  obtain ⟨i, rfl, p⟩ := int1_of (f := fun i => optV (ixV S.h v i) S.h) p
  obtain ⟨u, e, p⟩ := optV_of p
  cases rw_
  unfold ixV at e
  cases e1 : dr S.h v with
  | none => rw [e1] at e; cases e
  | some v1 =>
    rw [e1] at e
    have d := dr_rel g rv e1
    cases v1 with
    | str s =>
      obtain ⟨rfl, a⟩ := d
      cases q : atI s i with
      | none => simp only [q] at e; cases e
      | some c =>
        simp only [q, Option.map_some, Option.some.injEq] at e
        subst e
        refine .inr (.inr ⟨toS s, i, c, rfl, rfl, by rw [toS_len, ← SL_eq]; exact (asc_iff.mp a).2, ?_, ?_⟩)
        · rw [toS_cps]; exact q
        · refine old_str (s := [c]) g (asc_iff.mpr ⟨fun c' h' => ?_, ?_⟩) p
          · rw [List.mem_singleton.mp h']
            unfold atI at q
            cases q1 : ixN s.length i with
            | none => rw [q1] at q; cases q
            | some k => rw [q1] at q; exact (asc_iff.mp a).1 c (List.mem_of_getElem? q)
          · show 1 ≤ SL; decide
    | list xs =>
      obtain ⟨a, ys, rfl, h, r⟩ := d
      obtain ⟨z, e2, r2⟩ := atI_rel r e
      exact .inl ⟨a, ys, i, z, rfl, rfl, .inl (.inl h), e2, old_val g r2 p⟩
    | tup xs =>
      obtain ⟨a, ys, rfl, h, r⟩ := d
      obtain ⟨z, e2, r2⟩ := atI_rel r e
      exact .inr (.inl ⟨a, ys, i, z, rfl, rfl, by rw [← hK]; exact h, e2, old_val g r2 p⟩)
    | _ => cases e
theorem cut_eq {A : Type} (xs : List A) (lo hi : Option Int) : cut xs lo hi = (xs.drop (HT.sIx xs.length 0 lo)).take (HT.sIx xs.length xs.length hi - HT.sIx xs.length 0 lo) := rfl
theorem cut_rel {S : RS} {vs : List Val} {xs : List V} (r : Rels S vs xs) (lo hi : Option Int) : Rels S (cut vs lo hi) (cutV xs lo hi) := by
  unfold cut cutV
  rw [r.len]
  exact (r.drop _).take _
theorem cut_len {A : Type} (xs : List A) (lo hi : Option Int) : (cut xs lo hi).length ≤ xs.length := by
  unfold cut
  rw [List.length_take, List.length_drop]; omega
theorem asc_cut {s : T} (h : asc s = true) (lo hi : Option Int) : asc (cut s lo hi) = true :=
  asc_iff.mpr ⟨fun c hc => (asc_iff.mp h).1 c (List.mem_of_mem_drop (List.mem_of_mem_take hc)), Nat.le_trans (cut_len _ _ _) (asc_iff.mp h).2⟩
def rSlAll (X : Cx) : V → Option Int → Option Int → Hp → VK → Prop := fun x lo hi H Q => rSlL X.K x lo hi H Q ∨ (rSlA X.K x lo hi H Q ∨ rSlS x lo hi H Q)
theorem sl_all : SlR X (rSlAll X) := sl_list.or (sl_tupA.or sl_str)
theorem slV_of {S : RS} {v : Val} {x : V} {lo hi : Option Int} {Q : VK} (hK : S.K = X.K) (g : Good S) (rv : Rel S v x) (p : Post S (slV S.h v lo hi) Q) : rSlAll X x lo hi S.H Q := by
  unfold slV at p
  cases e1 : dr S.h v with
  | none => rw [e1] at p; exact p.elim
  | some v1 =>
    rw [e1] at p
    have d := dr_rel g rv e1
    cases v1 with
    | scr xs =>
      obtain ⟨a, ys, rfl, h, r⟩ := d
      exact .inl ⟨a, ys, rfl, by rw [← hK]; exact h.sq, fun q n => new_lst g (cut_rel r lo hi) p n⟩
    | list xs =>
      obtain ⟨a, ys, rfl, h, r⟩ := d
      exact .inl ⟨a, ys, rfl, .inl (.inl h), fun q n => new_lst g (cut_rel r lo hi) p n⟩
    | tup xs =>
      obtain ⟨a, ys, rfl, h, r⟩ := d
      refine .inr (.inl ⟨a, ys, rfl, by rw [← hK]; exact h, fun w => ?_, fun _ q n => new_tup g (cut_rel r lo hi) p n⟩)
      have ec : cut xs lo hi = xs := by
        unfold cut
        rw [r.len]
        rw [show sIx ys.length 0 lo = 0 from w.1, show sIx ys.length ys.length hi = ys.length from w.2, ← r.len]
        simp
      have p : Post S (.ok (.tup (cut xs lo hi)) S.h) Q := p
      rw [ec] at p
      cases v with
      | tup zs =>
        cases e1
        obtain ⟨b, ys2, e2, f, _⟩ := rv
        obtain rfl : a = b := V.ref.inj e2
        exact old_val g (show Rel S (.tup xs) (.ref a) from ⟨a, ys2, rfl, f, by assumption⟩) p
      | ref n =>
        exfalso
        unfold dr at e1
        simp only at e1
        cases q : S.h[n]? with
        | none => rw [q] at e1; cases e1
        | some o => rw [q] at e1; cases o <;> cases e1
      | _ => cases e1
    | str s =>
      obtain ⟨rfl, a⟩ := d
      refine .inr (.inr ⟨toS s, rfl, by rw [toS_len, ← SL_eq]; exact (asc_iff.mp a).2, ?_⟩)
      have e : cutS (toS s) lo hi = toS (cut s lo hi) := by
        unfold cutS
        rw [toS_cps, toS_len]; rfl
      rw [e]
      exact old_str g (asc_cut a lo hi) p
    | _ => exact p.elim
end
end M
namespace M
open PySem PySem.Spec PyProof.Rows L2
section
variable {X : Cx}
def PRc (X : Cx) (p : P) (r : List V → Hp → VK → Prop) : Prop := ∀ (S : RS) (vs : List Val) (xs : List V) (Q : VK), S.K = X.K → Good S → Rels S vs xs → Post S (evP p vs S.h) Q → r xs S.H Q
theorem one_of {S : RS} {vs : List Val} {xs : List V} {p : P} {Q : VK} (r : Rels S vs xs) (h1 : ∀ a b t, evP p (a :: b :: t) S.h = .stuck) (h0 : evP p [] S.h = .stuck) (q : Post S (evP p vs S.h) Q) : ∃ v x, vs = [v] ∧ xs = [x] ∧ Rel S v x := by
  cases vs with
  | nil => rw [h0] at q; exact q.elim
  | cons v t =>
    cases t with
    | nil =>
      obtain ⟨x, t, rfl, h, e⟩ := r
      cases e
      exact ⟨v, x, rfl, rfl, h⟩
    | cons w t => rw [h1] at q; exact q.elim
theorem two_of {S : RS} {vs : List Val} {xs : List V} {p : P} {Q : VK} (r : Rels S vs xs) (h2 : ∀ a b c t, evP p (a :: b :: c :: t) S.h = .stuck) (h1 : ∀ a, evP p [a] S.h = .stuck) (h0 : evP p [] S.h = .stuck) (q : Post S (evP p vs S.h) Q) :
    ∃ v w x y, vs = [v, w] ∧ xs = [x, y] ∧ Rel S v x ∧ Rel S w y := by
  match vs, r, q with
  | [], _, q => rw [h0] at q; exact q.elim
  | [a], _, q => rw [h1] at q; exact q.elim
  | [v, w], r, q =>
    obtain ⟨x, t, rfl, h, e⟩ := r
    obtain ⟨y, t, rfl, h', e⟩ := e
    cases e
    exact ⟨v, w, x, y, rfl, rfl, h, h'⟩
  | a :: b :: c :: t, _, q => rw [h2] at q; exact q.elim
/-! ### len -/
def rLenA (X : Cx) : List V → Hp → VK → Prop := fun xs H Q => (∃ p ys, xs = [.ref p] ∧ (SqL X.K H p ys ∨ SqT X.K H p ys) ∧ Q (.int ys.length) H) ∨ ∃ z : Str, xs = [.str z] ∧ z.length ≤ sizeLine ∧ Q (.int z.length) H
theorem call_lenA : CallR X (.builtin "len") (rLenA X) := call_len_seq.or call_len_str
theorem pr_len : PRc X .len (rLenA X) := fun S vs xs Q hK g r p => by
  obtain ⟨v, x, rfl, rfl, rv⟩ := one_of r (fun _ _ _ => rfl) rfl p
  obtain ⟨u, e, p⟩ := optV_of (o := (lenV S.h v).map fun n => .int n) p
  unfold lenV at e
  cases e1 : dr S.h v with
  | none => rw [e1] at e; cases e
  | some v1 =>
    rw [e1] at e
    have d := dr_rel g rv e1
    cases v1 with
    | str s =>
      cases e
      obtain ⟨rfl, a⟩ := d
      exact .inr ⟨_, rfl, by rw [toS_len, ← SL_eq]; exact (asc_iff.mp a).2, by rw [toS_len]; exact old_int g p⟩
    | list ys =>
      cases e
      obtain ⟨a, zs, rfl, h, r⟩ := d
      exact .inl ⟨a, zs, rfl, .inl (.inl (.inl h)), by rw [← r.len]; exact old_int g p⟩
    | tup ys =>
      cases e
      obtain ⟨a, zs, rfl, h, r⟩ := d
      exact .inl ⟨a, zs, rfl, .inr (by rw [← hK]; exact h), by rw [← r.len]; exact old_int g p⟩
    | _ => cases e
/-! ### all, any, sum -/
theorem bools_rel {S : RS} : ∀ {vs : List Val} {xs : List V} {bs : List Bool}, Rels S vs xs → boolsOf vs = some bs → xs = bs.map V.bl
  | [], _, _, h, e => by cases e; cases h; rfl
  | v :: r, _, bs, h, e => by
    obtain ⟨x, t, rfl, h1, h2⟩ := h
    cases v with
    | bool b =>
      cases h1
      unfold boolsOf at e
      cases q : boolsOf r with
      | none => rw [q] at e; cases e
      | some cs => rw [q] at e; cases e; rw [bools_rel h2 q]; rfl
    | _ => cases e
theorem ints_rel {S : RS} : ∀ {vs : List Val} {xs : List V} {bs : List Int}, Rels S vs xs → intsOf vs = some bs → xs = bs.map V.int
  | [], _, _, h, e => by cases e; cases h; rfl
  | v :: r, _, bs, h, e => by
    obtain ⟨x, t, rfl, h1, h2⟩ := h
    cases v with
    | int b =>
      cases h1
      unfold intsOf at e
      cases q : intsOf r with
      | none => rw [q] at e; cases e
      | some cs => rw [q] at e; cases e; rw [ints_rel h2 q]; rfl
    | _ => cases e
theorem texts_rel {S : RS} : ∀ {vs : List Val} {xs : List V} {bs : List T}, Rels S vs xs → textsOf vs = some bs → xs = (bs.map toS).map V.str ∧ ∀ b ∈ bs, asc b = true
  | [], _, _, h, e => by cases e; cases h; exact ⟨rfl, fun b hb => by cases hb⟩
  | v :: r, _, bs, h, e => by
    obtain ⟨x, t, rfl, h1, h2⟩ := h
    cases v with
    | str b =>
      obtain ⟨rfl, a⟩ := h1
      unfold textsOf at e
      cases q : textsOf r with
      | none => rw [q] at e; cases e
      | some cs =>
        rw [q] at e; cases e
        obtain ⟨e1, e2⟩ := texts_rel h2 q
        rw [e1]
        exact ⟨rfl, fun c hc => (List.mem_cons.mp hc).elim (fun z => by rw [z]; exact a) (e2 c)⟩
    | _ => cases e

theorem toS_of (s : Str) : toS s.cps.toList = s := rfl
theorem strR_of {S : RS} {s : Str} {Q : VK} (g : Good S) (p : Post S (strR s S.h) Q) : Q (.str s) S.H := by
  obtain ⟨a, p⟩ := ite_of p
  have h := old_str g a p
  rwa [toS_of] at h
theorem lst_rel {S : RS} (g : Good S) {v : Val} {x : V} {xs : List Val} (r : Rel S v x) (e : lstOf S.h v = some xs) : ∃ a ys, x = .ref a ∧ S.H a = some (.lst ys) ∧ Rels S xs ys := by
  unfold lstOf at e
  cases q : dr S.h v with
  | none => rw [q] at e; cases e
  | some w =>
    rw [q] at e
    have d := dr_rel g r q
    cases w with
    | list zs => cases e; exact d
    | _ => cases e
theorem bindO {A B : Type} {o : Option A} {f : A → Option B} {b : B} (h : o.bind f = some b) : ∃ a, o = some a ∧ f a = some b := by
  cases o with
  | none => cases h
  | some a => exact ⟨a, rfl, h⟩
theorem mapO {A B : Type} {o : Option A} {f : A → B} {b : B} (h : o.map f = some b) : ∃ a, o = some a ∧ f a = b := by
  cases o with
  | none => cases h
  | some a => exact ⟨a, rfl, Option.some.inj h⟩
theorem pr_all : PRc X .all (rAll X.K) := fun S vs xs Q hK g r p => by
  obtain ⟨v, x, rfl, rfl, rv⟩ := one_of r (fun _ _ _ => rfl) rfl p
  obtain ⟨u, e, q⟩ := optB_of g (o := ((lstOf S.h v).bind boolsOf).map fun (bs : List Bool) => bs.all id) p
  obtain ⟨bs, e1, rfl⟩ := mapO e
  obtain ⟨zs, e2, e3⟩ := bindO e1
  obtain ⟨a, ys, rfl, h, r⟩ := lst_rel g rv e2
  rw [bools_rel r e3] at h
  exact ⟨a, bs, rfl, .inl (.inl h), q⟩
theorem pr_any : PRc X .any (rAny X.K) := fun S vs xs Q hK g r p => by
  obtain ⟨v, x, rfl, rfl, rv⟩ := one_of r (fun _ _ _ => rfl) rfl p
  obtain ⟨u, e, q⟩ := optB_of g (o := ((lstOf S.h v).bind boolsOf).map fun (bs : List Bool) => bs.any id) p
  obtain ⟨bs, e1, rfl⟩ := mapO e
  obtain ⟨zs, e2, e3⟩ := bindO e1
  obtain ⟨a, ys, rfl, h, r⟩ := lst_rel g rv e2
  rw [bools_rel r e3] at h
  exact ⟨a, bs, rfl, .inl (.inl h), q⟩
theorem pr_sum : PRc X .sum (rSum X.K) := fun S vs xs Q hK g r p => by
  obtain ⟨v, x, rfl, rfl, rv⟩ := one_of r (fun _ _ _ => rfl) rfl p
  obtain ⟨u, e, q⟩ := optV_of (o := ((lstOf S.h v).bind intsOf).map fun is => .int is.sum) p
  obtain ⟨bs, e1, rfl⟩ := mapO e
  obtain ⟨zs, e2, e3⟩ := bindO e1
  obtain ⟨a, ys, rfl, h, r⟩ := lst_rel g rv e2
  rw [ints_rel r e3] at h
  exact ⟨a, bs, rfl, .inl (.inl h), old_int g q⟩
theorem minI_ok : ∀ (r : List Int) (i : Int), minI i r ∈ i :: r ∧ ∀ y ∈ i :: r, minI i r ≤ y
  | [], i => ⟨List.mem_singleton.mpr rfl, fun y hy => by rw [List.mem_singleton.mp hy]; exact Int.le_refl _⟩
  | j :: r, i => by
    obtain ⟨h1, h2⟩ := minI_ok r (if j < i then j else i)
    have e : minI i (j :: r) = minI (if j < i then j else i) r := rfl
    rw [e]
    refine ⟨?_, fun y hy => ?_⟩
    · rcases List.mem_cons.mp h1 with h | h
      · rw [h]; split <;> simp
      · exact List.mem_cons_of_mem _ (List.mem_cons_of_mem _ h)
    · have h3 := h2 _ (List.mem_cons_self ..)
      generalize hz : minI (if j < i then j else i) r = z at h2 h3 ⊢
      rcases List.mem_cons.mp hy with h | h
      · subst h; split at h3 <;> omega
      · rcases List.mem_cons.mp h with h | h
        · subst h; split at h3 <;> omega
        · exact h2 y (List.mem_cons_of_mem _ h)
theorem maxI_ok : ∀ (r : List Int) (i : Int), maxI i r ∈ i :: r ∧ ∀ y ∈ i :: r, y ≤ maxI i r
  | [], i => ⟨List.mem_singleton.mpr rfl, fun y hy => by rw [List.mem_singleton.mp hy]; exact Int.le_refl _⟩
  | j :: r, i => by
    obtain ⟨h1, h2⟩ := maxI_ok r (if j > i then j else i)
    have e : maxI i (j :: r) = maxI (if j > i then j else i) r := rfl
    rw [e]
    refine ⟨?_, fun y hy => ?_⟩
    · rcases List.mem_cons.mp h1 with h | h
      · rw [h]; split <;> simp
      · exact List.mem_cons_of_mem _ (List.mem_cons_of_mem _ h)
    · have h3 := h2 _ (List.mem_cons_self ..)
      generalize hz : maxI (if j > i then j else i) r = z at h2 h3 ⊢
      rcases List.mem_cons.mp hy with h | h
      · subst h; split at h3 <;> omega
      · rcases List.mem_cons.mp h with h | h
        · subst h; split at h3 <;> omega
        · exact h2 y (List.mem_cons_of_mem _ h)
def rMin1 (K : PySem.W.Frag) : List V → Hp → VK → Prop := rMin K
theorem pr_min1 : PRc X .min1 (rMin X.K) := fun S vs xs Q hK g r p => by
  obtain ⟨v, x, rfl, rfl, rv⟩ := one_of r (fun _ _ _ => rfl) rfl p
  have p : Post S (match (lstOf S.h v).bind intsOf with
    | some (i :: r) => .ok (.int (minI i r)) S.h
    | _ => .stuck) Q := p
  cases e1 : (lstOf S.h v).bind intsOf with
  | none => rw [e1] at p; exact p.elim
  | some bs =>
    cases bs with
    | nil => rw [e1] at p; exact p.elim
    | cons i t =>
      rw [e1] at p
      obtain ⟨zs, e2, e3⟩ := bindO e1
      obtain ⟨a, ys, rfl, h, r⟩ := lst_rel g rv e2
      rw [ints_rel r e3] at h
      obtain ⟨h1, h2⟩ := minI_ok t i
      refine ⟨a, i :: t, rfl, .inl (.inl h), Nat.succ_pos _, fun m hm hm2 => ?_⟩
      have em : m = minI i t := Int.le_antisymm (hm2 _ h1) (h2 _ hm)
      subst em
      exact old_int g p
theorem pr_max1 : PRc X .max1 (rMax X.K) := fun S vs xs Q hK g r p => by
  obtain ⟨v, x, rfl, rfl, rv⟩ := one_of r (fun _ _ _ => rfl) rfl p
  have p : Post S (match (lstOf S.h v).bind intsOf with
    | some (i :: r) => .ok (.int (maxI i r)) S.h
    | _ => .stuck) Q := p
  cases e1 : (lstOf S.h v).bind intsOf with
  | none => rw [e1] at p; exact p.elim
  | some bs =>
    cases bs with
    | nil => rw [e1] at p; exact p.elim
    | cons i t =>
      rw [e1] at p
      obtain ⟨zs, e2, e3⟩ := bindO e1
      obtain ⟨a, ys, rfl, h, r⟩ := lst_rel g rv e2
      rw [ints_rel r e3] at h
      obtain ⟨h1, h2⟩ := maxI_ok t i
      refine ⟨a, i :: t, rfl, .inl (.inl h), Nat.succ_pos _, fun m hm hm2 => ?_⟩
      have em : m = maxI i t := Int.le_antisymm (h2 _ hm) (hm2 _ h1)
      subst em
      exact old_int g p
theorem pr_min2 : PRc X .min2 (fun xs H Q => ∃ i j, xs = [.int i, .int j] ∧ Q (.int (if j < i then j else i)) H) := fun S vs xs Q hK g r p => by
  obtain ⟨v, w, x, y, rfl, rfl, rv, rw_⟩ := two_of r (fun _ _ _ _ => rfl) (fun _ => rfl) rfl p
  obtain ⟨i, j, rfl, rfl, p⟩ := int2_of (f := fun i j => .ok (.int (if j < i then j else i)) S.h) p
  cases rv; cases rw_
  exact ⟨i, j, rfl, old_int g p⟩
theorem pr_max2 : PRc X .max2 (fun xs H Q => ∃ i j, xs = [.int i, .int j] ∧ Q (.int (if j > i then j else i)) H) := fun S vs xs Q hK g r p => by
  obtain ⟨v, w, x, y, rfl, rfl, rv, rw_⟩ := two_of r (fun _ _ _ _ => rfl) (fun _ => rfl) rfl p
  obtain ⟨i, j, rfl, rfl, p⟩ := int2_of (f := fun i j => .ok (.int (if j > i then j else i)) S.h) p
  cases rv; cases rw_
  exact ⟨i, j, rfl, old_int g p⟩
theorem pr_int : PRc X .int (fun xs H Q => (∃ i, xs = [.int i] ∧ Q (.int i) H) ∨ ∃ k, xs = [.bl k] ∧ Q (.int (if k then 1 else 0)) H) := fun S vs xs Q hK g r p => by
  obtain ⟨v, x, rfl, rfl, rv⟩ := one_of r (fun _ _ _ => rfl) rfl p
  cases v with
  | bool b => cases rv; exact .inr ⟨b, rfl, old_int g p⟩
  | int i => cases rv; exact .inl ⟨i, rfl, old_int g p⟩
  | _ => exact (show False from p).elim
def rStr1 : List V → Hp → VK → Prop := fun xs H Q => (∃ i, xs = [.int i] ∧ i.natAbs.log2 < 1920 ∧ Q (.str (toString i)) H) ∨ ∃ a, xs = [.str a] ∧ Q (.str a) H
theorem call_str1 : CallR X (.type "str") rStr1 := call_str_int.or SkE.call_str_str
theorem log_few {n : Nat} (h : n < 2 ^ 1000) : n.log2 < 1920 := by
  by_cases e : n = 0
  · subst e; decide
  · have := (Nat.log2_lt e).mpr h
    omega
theorem pr_str : PRc X .str rStr1 := fun S vs xs Q hK g r p => by
  obtain ⟨v, x, rfl, rfl, rv⟩ := one_of r (fun _ _ _ => rfl) rfl p
  cases v with
  | int i =>
    cases rv
    obtain ⟨c, p⟩ := ite_of p
    exact .inl ⟨i, rfl, log_few c, strR_of g p⟩
  | str s => obtain ⟨rfl, a⟩ := rv; exact .inr ⟨_, rfl, old_str g a p⟩
  | _ => exact (show False from p).elim
theorem pr_ord : PRc X .ord (fun xs H Q => ∃ x, xs = [.str x] ∧ x.length = 1 ∧ Q (.int (x.cps.getD 0 0 : Nat)) H) := fun S vs xs Q hK g r p => by
  obtain ⟨v, x, rfl, rfl, rv⟩ := one_of r (fun _ _ _ => rfl) rfl p
  obtain ⟨s, rfl, p⟩ := str1_of (f := fun s => match s with
    | [c] => .ok (.int c) S.h
    | _ => .stuck) p
  obtain ⟨rfl, a⟩ := rv
  match s, a, p with
  | [], _, p => exact p.elim
  | [c], _, p => exact ⟨_, rfl, rfl, old_int g p⟩
  | _ :: _ :: _, _, p => exact p.elim
theorem seq1_of {S : RS} {a : Val} {f : List Val → Res Val} {Q : VK} (p : Post S (seq1 S.h a f) Q) : ∃ xs, seqOf S.h a = some xs ∧ Post S (f xs) Q := by
  unfold seq1 at p
  cases e : seqOf S.h a with
  | none => rw [e] at p; exact p.elim
  | some xs => rw [e] at p; exact ⟨xs, rfl, p⟩
theorem pr_listOf {m : Bool} : PRc X (.listOf m) (fun xs H Q => ∃ p ys, xs = [.ref p] ∧ (SqL X.K H p ys ∨ SqT X.K H p ys) ∧ ∀ l, H l = none → Q (.ref l) (upd H l (.lst ys))) := fun S vs xs Q hK g r p => by
  obtain ⟨v, x, rfl, rfl, rv⟩ := one_of r (fun _ _ _ => rfl) rfl p
  obtain ⟨zs, e, p⟩ := seq1_of (f := fun xs => okList m xs S.h) p
  obtain ⟨a, ys, rfl, h, r⟩ := seq_rel g rv e
  exact ⟨a, ys, rfl, h.elim (fun h => .inl (.inl (.inl h))) (fun h => .inr (by rw [← hK]; exact h)), (okList_of g r p).2⟩
theorem pr_tupOf : PRc X .tupOf (fun xs H Q => ∃ p ys, xs = [.ref p] ∧ ((SqL X.K H p ys ∧ ∀ l, H l = none → Q (.ref l) (upd H l (.tup ys))) ∨ (SqT X.K H p ys ∧ Q (.ref p) H))) := fun S vs xs Q hK g r p => by
  obtain ⟨v, x, rfl, rfl, rv⟩ := one_of r (fun _ _ _ => rfl) rfl p
  obtain ⟨zs, e, p⟩ := seq1_of (f := fun xs => okTup xs S.h) p
  obtain ⟨_, p2⟩ := okTup_of p
  cases v with
  | tup us =>
    cases e
    obtain ⟨a, ys, rfl, f, r⟩ := rv
    exact ⟨a, ys, rfl, .inr ⟨by rw [← hK]; exact f.sq, old_val g (tup_of r f) p2⟩⟩
  | list us =>
    cases e
    obtain ⟨a, ys, rfl, f, r⟩ := rv
    exact ⟨a, ys, rfl, .inl ⟨.inl (.inl f.1), fun l n => new_tup g r p2 n⟩⟩
  | ref n =>
    obtain ⟨a, ha, rfl⟩ := rv
    unfold seqOf dr at e
    simp only at e
    cases q : S.h[n]? with
    | none => rw [q] at e; cases e
    | some o =>
      rw [q] at e
      have o1 := g.obj n o a q ha
      cases o with
      | list us =>
        cases e
        obtain ⟨ys, h, r⟩ := o1
        exact ⟨a, ys, rfl, .inl ⟨.inl (.inl h), fun l n => new_tup g r p2 n⟩⟩
      | _ => cases e
  | _ => cases e
end
end M
namespace M
open PySem PySem.Spec PyProof.Rows L2
section
variable {X : Cx}
/-! ### methods of mutable lists -/
def PRm (X : Cx) (p : P) (T : String) (r : V → List V → Hp → VK → Prop) : Prop := ∀ (S : RS) (v : Val) (vs : List Val) (x : V) (xs : List V) (Q : VK), S.K = X.K → Good S → Rel S v x → Rels S vs xs → Post S (evP p (v :: vs) S.h) Q → r x xs S.H Q
theorem lst1_of {S : RS} {n : Nat} {f : List Val → Res Val} {Q : VK} (p : Post S (lst1 S.h n f) Q) : ∃ xs, S.h[n]? = some (.list xs) ∧ Post S (f xs) Q := by
  unfold lst1 at p
  cases e : S.h[n]? with
  | none => rw [e] at p; exact p.elim
  | some o =>
    rw [e] at p
    cases o with
    | list xs => exact ⟨xs, rfl, p⟩
    | _ => exact p.elim
theorem lstr_of {S : RS} {a : Val} {f : List Val → Res Val} {Q : VK} (p : Post S (lstr S.h a f) Q) : ∃ xs, lstOf S.h a = some xs ∧ Post S (f xs) Q := by
  unfold lstr at p
  cases e : lstOf S.h a with
  | none => rw [e] at p; exact p.elim
  | some xs => rw [e] at p; exact ⟨xs, rfl, p⟩
/-- the mutable list behind a reference -/
theorem ref_lst {S : RS} (g : Good S) {n : Nat} {x : V} {xs : List Val} (r : Rel S (.ref n) x) (e : S.h[n]? = some (.list xs)) : ∃ a ys, x = .ref a ∧ S.r[n]? = some a ∧ S.H a = some (.lst ys) ∧ Rels S xs ys := by
  obtain ⟨a, h1, rfl⟩ := r
  obtain ⟨ys, h2, r⟩ := g.obj n _ a e h1
  exact ⟨a, ys, rfl, h1, h2, r⟩
/-- it is changed -/
theorem mut_lst {S : RS} (g : Good S) {n : Nat} {a : Addr} {xs vs : List Val} {ys : List V} {v : Val} {x : V} {Q : VK} (ha : S.r[n]? = some a) (e : S.h[n]? = some (.list xs)) (r : Rels S vs ys) (rv : Rel S v x)
    (p : Post S (.ok v (S.h.set n (.list vs))) Q) : Q x (upd S.H a (.lst ys)) := by
  have ex : Ext S (S.mut n a (.lst ys) (.list vs)) := ext_mut g ha e (fun z => nomatch z)
  exact p (S.mut n a (.lst ys) (.list vs)) x rfl (good_mut g ha e (fun z => nomatch z) ⟨ys, upd_same, r.ext ex⟩) ex (rv.ext ex)
theorem lt_sl {n : Nat} (h : n < SL) : n < sizeLine := by rw [← SL_eq]; exact h
theorem le_sl {n : Nat} (h : n ≤ SL) : n ≤ sizeLine := by rw [← SL_eq]; exact h
theorem pm_append : PRm X .append "list" rAppend := fun S v vs x xs Q hK g rv r p => by
  match vs, r, p with
  | [], _, p => exact (show False from p).elim
  | [w], r, p =>
    obtain ⟨n, rfl, p⟩ := ref1_of (f := fun n => lst1 S.h n fun xs => if xs.length < SL then .ok .none (S.h.set n (.list (xs ++ [w]))) else .stuck) p
    obtain ⟨zs, e, p⟩ := lst1_of p
    obtain ⟨c, p⟩ := ite_of p
    obtain ⟨a, ys, rfl, ha, hH, rz⟩ := ref_lst g rv e
    obtain ⟨y, t, rfl, ry, et⟩ := r
    cases et
    exact ⟨a, ys, y, rfl, rfl, hH, by rw [← rz.len]; exact lt_sl c, mut_lst g ha e (rz.app (.one ry)) (v := .none) (x := .non) rfl p⟩
  | _ :: _ :: _, _, p => exact (show False from p).elim
theorem pm_pop : PRm X .pop "list" rPop := fun S v vs x xs Q hK g rv r p => by
  match vs, r, p with
  | [], r, p =>
    cases r
    obtain ⟨n, rfl, p⟩ := ref1_of (f := fun n => lst1 S.h n fun xs => match xs[xs.length - 1]? with
      | some v => .ok v (S.h.set n (.list xs.dropLast))
      | none => .stuck) p
    obtain ⟨zs, e, p⟩ := lst1_of p
    obtain ⟨a, ys, rfl, ha, hH, rz⟩ := ref_lst g rv e
    cases q : zs[zs.length - 1]? with
    | none => rw [q] at p; exact p.elim
    | some w =>
      rw [q] at p
      obtain ⟨y, e2, ry⟩ := rz.get q
      rw [rz.len] at e2
      exact ⟨a, ys, y, rfl, rfl, hH, e2, mut_lst g ha e rz.init ry p⟩
  | _ :: _, _, p => exact (show False from p).elim
theorem ixN_seq {n : Nat} {i : Int} {k : Nat} (h : ixN n i = some k) : seqIndex? i n = some k ∧ -(n : Int) ≤ i ∧ i < n := by
  unfold ixN at h
  unfold seqIndex?
  split at h
  · rename_i h0
    split at h
    · rename_i h1
      cases h
      have e1 : ¬ i < 0 := by omega
      simp only [e1, if_false]
      refine ⟨?_, by omega, h1⟩
      have e2 : (decide (0 ≤ i) && decide (i < (n : Int))) = true := by simp [h0, h1]
      rw [e2] <;> rfl
    · cases h
  · rename_i h0
    split at h
    · rename_i h1
      cases h
      have e1 : i < 0 := by omega
      simp only [e1, if_true]
      refine ⟨?_, h1, by omega⟩
      have e2 : (decide (0 ≤ i + (n : Int)) && decide (i + (n : Int) < (n : Int))) = true := by
        rw [Bool.and_eq_true, decide_eq_true_eq, decide_eq_true_eq]; omega
      rw [e2] <;> rfl
    · cases h
theorem pm_popAt : PRm X .popAt "list" rPopAt := fun S v vs x xs Q hK g rv r p => by
  match vs, r, p with
  | [], _, p => exact (show False from p).elim
  | [w], r, p =>
    obtain ⟨n, rfl, p⟩ := ref1_of (f := fun n => int1 w fun i => lst1 S.h n fun xs => if xs.length ≤ SL then (match ixN xs.length i with
      | some k => match xs[k]? with
        | some v => .ok v (S.h.set n (.list (xs.eraseIdx k)))
        | none => .stuck
      | none => .stuck) else .stuck) p
    obtain ⟨i, rfl, p⟩ := int1_of p
    obtain ⟨zs, e, p⟩ := lst1_of p
    obtain ⟨c, p⟩ := ite_of p
    obtain ⟨a, ys, rfl, ha, hH, rz⟩ := ref_lst g rv e
    obtain ⟨y, t, rfl, ry, et⟩ := r
    cases et
    cases ry
    cases q : ixN zs.length i with
    | none => rw [q] at p; exact p.elim
    | some k =>
      rw [q] at p
      simp only at p
      cases q2 : zs[k]? with
      | none => rw [q2] at p; exact p.elim
      | some w =>
        rw [q2] at p
        obtain ⟨y, e2, ry⟩ := rz.get q2
        rw [rz.len] at q
        obtain ⟨h1, h2, h3⟩ := ixN_seq q
        have h4 : ys.length ≤ 16777216 := by rw [← rz.len]; exact c
        exact ⟨a, ys, i, k, y, rfl, rfl, hH, by omega, by omega, h1, e2, mut_lst g ha e (rz.erase k) ry p⟩
  | _ :: _ :: _, _, p => exact (show False from p).elim
theorem pm_extend : PRm X .extend "list" rExtend := fun S v vs x xs Q hK g rv r p => by
  match vs, r, p with
  | [], _, p => exact (show False from p).elim
  | [w], r, p =>
    obtain ⟨n, rfl, p⟩ := ref1_of (f := fun n => lst1 S.h n fun xs => lstr S.h w fun ys => if xs.length + ys.length ≤ SL then .ok .none (S.h.set n (.list (xs ++ ys))) else .stuck) p
    obtain ⟨zs, e, p⟩ := lst1_of p
    obtain ⟨us, e2, p⟩ := lstr_of p
    obtain ⟨c, p⟩ := ite_of p
    obtain ⟨a, ys, rfl, ha, hH, rz⟩ := ref_lst g rv e
    obtain ⟨y, t, rfl, ry, et⟩ := r
    cases et
    obtain ⟨b, ws, rfl, hB, rb⟩ := lst_rel g ry e2
    exact ⟨a, b, ys, ws, rfl, rfl, hH, hB, by rw [← rz.len, ← rb.len]; exact le_sl c, mut_lst g ha e (rz.app rb) (v := .none) (x := .non) rfl p⟩
  | _ :: _ :: _, _, p => exact (show False from p).elim
/-! ### methods of texts -/
theorem sum_toS (ss : List T) : ((ss.map toS).map (·.length)).sum = (ss.map (·.length)).sum := by
  rw [List.map_map]
  exact congrArg List.sum (List.map_congr_left fun s _ => toS_len s)
theorem pm_join : PRm X .join "str" (fun x xs H Q => ∃ a p, ∃ ys : List Str, x = .str a ∧ xs = [.ref p] ∧ (SqL X.K H p (ys.map V.str) ∨ SqT X.K H p (ys.map V.str)) ∧
    (ys.map (·.length)).sum + ys.length * a.length ≤ 16777216 ∧ Q (.str (Txt.join a ys)) H) := fun S v vs x xs Q hK g rv r p => by
  match vs, r, p with
  | [], _, p => exact (show False from p).elim
  | [w], r, p =>
    obtain ⟨s, rfl, p2⟩ := str1_of (f := fun sep => match (seqOf S.h w).bind textsOf with
      | some ss => if (ss.map (·.length)).sum + ss.length * sep.length ≤ SL then strR (PySem.Txt.join (toS sep) (ss.map toS)) S.h else .stuck
      | none => .stuck) p
    obtain ⟨rfl, a⟩ := rv
    obtain ⟨y, t, rfl, ry, et⟩ := r
    cases et
    cases e1 : (seqOf S.h w).bind textsOf with
    | none => rw [e1] at p2; exact p2.elim
    | some ss =>
      rw [e1] at p2
      obtain ⟨c, p2⟩ := ite_of p2
      obtain ⟨zs, e2, e3⟩ := bindO e1
      obtain ⟨b, ys, rfl, hb, rb⟩ := seq_rel g ry e2
      obtain ⟨e4, _⟩ := texts_rel rb e3
      rw [e4] at hb
      refine ⟨_, b, ss.map toS, rfl, rfl, hb.elim (fun h => .inl (.inl (.inl h))) (fun h => .inr (by rw [← hK]; exact h)), ?_, strR_of g p2⟩
      rw [sum_toS, List.length_map, toS_len]
      exact c
  | _ :: _ :: _, _, p => exact (show False from p).elim
theorem pm_upper : PRm X .upper "str" (fun x xs H Q => ∃ a, x = .str a ∧ xs = [] ∧ a.length ≤ 5592405 ∧ Q (.str (Txt.upper a)) H) := fun S v vs x xs Q hK g rv r p => by
  match vs, r, p with
  | [], r, p =>
    cases r
    obtain ⟨s, rfl, p2⟩ := str1_of (f := fun s => if s.length ≤ 5000000 then strR (PySem.Txt.upper (toS s)) S.h else .stuck) p
    obtain ⟨rfl, a⟩ := rv
    obtain ⟨c, p2⟩ := ite_of p2
    exact ⟨_, rfl, rfl, by rw [toS_len]; omega, strR_of g p2⟩
  | _ :: _, _, p => exact (show False from p).elim
theorem pm_count : PRm X .count "str" (fun x xs H Q => ∃ a b, x = .str a ∧ xs = [.str b] ∧ Q (.int (Txt.count a b)) H) := fun S v vs x xs Q hK g rv r p => by
  match vs, r, p with
  | [], _, p => exact (show False from p).elim
  | [w], r, p =>
    obtain ⟨s, rfl, p2⟩ := str1_of (f := fun s => str1 w fun t => .ok (.int (PySem.Txt.count (toS s) (toS t))) S.h) p
    obtain ⟨t, rfl, p2⟩ := str1_of p2
    obtain ⟨rfl, a⟩ := rv
    obtain ⟨y, u, rfl, ry, et⟩ := r
    cases et
    obtain ⟨rfl, _⟩ := ry
    exact ⟨_, _, rfl, rfl, old_int g p2⟩
  | _ :: _ :: _, _, p => exact (show False from p).elim
/-- which methods there are: a built-in, its type, its rule -/
theorem recv_lst {S : RS} (g : Good S) {v : Val} {x : V} (r : Rel S v x) (h : isLst v S.h = true) : tyV S.K "list" x S.H := by
  cases v with
  | ref n =>
    unfold isLst at h
    simp only at h
    cases e : S.h[n]? with
    | none => rw [e] at h; cases h
    | some o =>
      rw [e] at h
      cases o with
      | list xs => obtain ⟨a, ys, rfl, _, hH, _⟩ := ref_lst g r e; exact .inl ⟨rfl, ys, .inl (.inl hH)⟩
      | _ => cases h
  | _ => cases h
theorem recv_str {S : RS} {v : Val} {x : V} (r : Rel S v x) (h : isStr v = true) : tyV S.K "str" x S.H := by
  cases v with
  | str s => obtain ⟨rfl, _⟩ := r; rfl
  | _ => cases h
/-! ### is -/
theorem isN_rel {S : RS} {v : Val} {x : V} (r : Rel S v x) : decide (x = V.non) = isN v := by
  cases v with
  | none => cases r; rfl
  | bool b => cases r; rfl
  | int b => cases r; rfl
  | str s => obtain ⟨rfl, _⟩ := r; rfl
  | tup xs => obtain ⟨a, vs, rfl, _⟩ := r; rfl
  | list xs => obtain ⟨a, vs, rfl, _⟩ := r; rfl
  | dict ks vs => obtain ⟨a, kvs, rfl, _⟩ := r; rfl
  | obj _ _ _ => exact r.elim
  | ref n => obtain ⟨a, _, rfl⟩ := r; rfl
  | fn _ => exact r.elim
  | cls _ => exact r.elim
  | ty _ => exact r.elim
  | scr xs => obtain ⟨a, vs, rfl, _⟩ := r; rfl
theorem p1_isNone : PR1 X .isNone (fun x H Q => Q (.bl (decide (x = .non))) H) := fun S v x Q hK g r p => by
  have q := old_bl g p
  show Q (.bl (decide (x = .non))) S.H
  rw [isN_rel r]; exact q
theorem p1_isNotNone : PR1 X .isNotNone (fun x H Q => Q (.bl (!decide (x = .non))) H) := fun S v x Q hK g r p => by
  have q := old_bl g p
  show Q (.bl (!decide (x = .non))) S.H
  rw [isN_rel r]; exact q
theorem p1_isTrue : PR1 X .isTrue (fun x H Q => rIsB x (.bl true) H Q) := fun S v x Q hK g r p => by
  obtain ⟨b, rfl, p⟩ := bool1_of (f := fun b => .ok (.bool b) S.h) p
  cases r
  have q := old_bl g p
  exact ⟨b, true, rfl, rfl, by cases b <;> exact q⟩
theorem p1_isFalse : PR1 X .isFalse (fun x H Q => rIsB x (.bl false) H Q) := fun S v x Q hK g r p => by
  obtain ⟨b, rfl, p⟩ := bool1_of (f := fun b => .ok (.bool (!b)) S.h) p
  cases r
  have q := old_bl g p
  exact ⟨b, false, rfl, rfl, by cases b <;> exact q⟩
theorem p1_isNotTrue : PR1 X .isNotTrue (fun x H Q => rNotB x (.bl true) H Q) := fun S v x Q hK g r p => by
  obtain ⟨b, rfl, p⟩ := bool1_of (f := fun b => .ok (.bool (!b)) S.h) p
  cases r
  have q := old_bl g p
  exact ⟨b, true, rfl, rfl, by cases b <;> exact q⟩
theorem p1_isNotFalse : PR1 X .isNotFalse (fun x H Q => rNotB x (.bl false) H Q) := fun S v x Q hK g r p => by
  obtain ⟨b, rfl, p⟩ := bool1_of (f := fun b => .ok (.bool b) S.h) p
  cases r
  have q := old_bl g p
  exact ⟨b, false, rfl, rfl, by cases b <;> exact q⟩
end
end M
namespace M
open PySem PySem.Spec PyProof.Rows L2
section
variable {X : Cx}
/-! ### isinstance -/
def tyName : Nat → String
  | 0 => "str"
  | 1 => "int"
  | 2 => "bool"
  | 3 => "tuple"
  | 4 => "list"
  | 5 => "dict"
  | _ => "NoneType"
theorem tyN_ok : ∀ k, k < 7 → ∀ t, t < 6 → kitB (tyName k) (tyName t) = some (isOf k t) := by decide +kernel
theorem kind_ty {S : RS} (g : Good S) {v : Val} {x : V} {k : Nat} (r : Rel S v x) (e : kindOf S.h v = some k) : k < 7 ∧ TyX S.K S.H x (.type (tyName k)) := by
  unfold kindOf at e
  cases q : dr S.h v with
  | none => rw [q] at e; cases e
  | some w =>
    rw [q] at e
    have d := dr_rel g r q
    cases w with
    | none => cases e; cases d; exact ⟨by decide, .base .non⟩
    | bool b => cases e; cases d; exact ⟨by decide, .base (.bl b)⟩
    | int i => cases e; cases d; exact ⟨by decide, .base (.int i)⟩
    | str s => cases e; obtain ⟨rfl, _⟩ := d; exact ⟨by decide, .base (.str _)⟩
    | list xs => cases e; obtain ⟨a, ys, rfl, h, _⟩ := d; exact ⟨by decide, .base (.lst h)⟩
    | tup xs =>
      cases e
      obtain ⟨a, ys, rfl, h, _⟩ := d
      refine ⟨by decide, ?_⟩
      rcases h with (h | ⟨o, h⟩) | ⟨o, its, n, hk, hc, _⟩
      · exact .base (.tup h)
      · exact .fTuple h
      · exact .kTuple hk hc
    | dict ks vs => cases e; obtain ⟨a, kvs, rfl, h, _⟩ := d; exact ⟨by decide, .base (.dK h.1)⟩
    | _ => cases e
theorem pr_isi {S : RS} {v : Val} {x : V} {Q : VK} {t : Nat} (ht : t < 6) (hK : S.K = X.K) (g : Good S) (r : Rel S v x) (p : Post S (evP (.isi [t]) [v] S.h) Q) : rIsi X.K [x, .ty (tyName t)] S.H Q := by
  obtain ⟨b, e, q⟩ := optB_of (o := (kindOf S.h v).map fun k => [t].any (isOf k)) g p
  obtain ⟨k, e1, e2⟩ := mapO e
  obtain ⟨hk, ty⟩ := kind_ty g r e1
  refine ⟨x, _, _, _, b, rfl, .ty _, by rw [← hK]; exact ty, ?_, q⟩
  rw [← e2]
  have h := tyN_ok k hk t ht
  have e3 : ([t].any (isOf k)) = isOf k t := by simp
  rw [e3]
  exact kit_ty h
/-! ### repr -/
def Rds (X : Cx) (H : Hp) (x : V) (d : PyData) : Prop := ∀ (pins : List (Addr × PySem.Obj)) (σ : L2.St) (s : Shared) (u : Value), Inv X pins σ H s → RelV x u → ∃ as, Reads s.heap u d as ∧ (d.hasDict = true → sysModules ∉ as)
def rRepr (X : Cx) : List V → Hp → VK → Prop := fun xs H Q => ∃ x d, xs = [x] ∧ Rds X H x d ∧ d.showable = true ∧ d.depth ≤ 64 ∧ d.shown.length ≤ sizeLine ∧ Q (.str d.shown) H
theorem call_reprA (hg : X.A.guards = some []) (hu : X.A.units + 65 < cLine) : CallR X (.builtin "repr") (rRepr X) := by
  intro pins s σ H xs us Q I r h
  obtain ⟨x, d, rfl, rd, hs, hd, hz, q⟩ := h
  obtain ⟨u, rfl, r1⟩ := Vals.one r
  obtain ⟨as, R, hm⟩ := rd pins σ s u I r1
  have fin : ∀ {h' : PySem.Heap} {tk : Nat} {t : Tok}, (∀ b o, s.heap.get? b = some o → h'.get? b = some o) → EP X pins σ Q (.str d.shown t) { s with heap := h', toks := tk } := fun hk => ⟨.str _, H, I.kept hk, ⟨_, rfl⟩, q⟩
  cases R with
  | none => exact PySem.P.repr_of_none (fin (fun _ _ e => e))
  | bool b => exact PySem.P.repr_of_bool (fin (fun _ _ e => e))
  | int i t => exact PySem.P.repr_of_int (of_decide_eq_true hs) (fin (fun _ _ e => e))
  | str y t => exact PySem.P.repr_of_str (fin (fun _ _ e => e)) hz
  | list h1 h2 h3 h4 => exact repr_of_reads' (.list h1 h2 h3 h4) hs hm hg (by omega) (fun _ _ e => e) (fun h' u tk hk => fin hk) hz
  | tuple h1 h2 h3 h4 => exact repr_of_reads' (.tuple h1 h2 h3 h4) hs hm hg (by omega) (fun _ _ e => e) (fun h' u tk hk => fin hk) hz
  | dict h1 h2 h3 h4 h5 => exact repr_of_reads' (.dict h1 h2 h3 h4 h5) hs hm hg (by omega) (fun _ _ e => e) (fun h' u tk hk => fin hk) hz
mutual
theorem noDict : ∀ {v : Val}, v.flat = true → (toPy v).hasDict = false
  | .none, _ => rfl
  | .bool _, _ => rfl
  | .int _, _ => rfl
  | .str _, _ => rfl
  | .tup xs, h => noDicts (show Val.flats xs = true from h)
  | .list xs, h => noDicts (show Val.flats xs = true from h)
  | .dict _ _, h => by cases h
  | .obj _ _ _, h => by cases h
  | .ref _, h => by cases h
  | .fn _, h => by cases h
  | .cls _, h => by cases h
  | .ty _, h => by cases h
  | .scr _, h => by cases h
theorem noDicts : ∀ {v : List Val}, Val.flats v = true → PyData.hasDictAll (toPys v) = false
  | [], _ => rfl
  | v :: r, h => by
    have h' := Bool.and_eq_true_iff.mp h
    show ((toPy v).hasDict || PyData.hasDictAll (toPys r)) = false
    rw [noDict h'.1, noDicts h'.2]
    exact rfl
end
theorem showableKv_zip : ∀ {ks vs : List PyData}, PyData.showableAll ks = true → PyData.showableAll vs = true → PyData.showableKv (ks.zip vs) = true
  | [], vs, _, _ => by simp [PyData.showableKv]
  | k :: ks, [], _, _ => by simp [PyData.showableKv]
  | k :: ks, v :: vs, h, h' => by
    simp only [PyData.showableAll, Bool.and_eq_true] at h h'
    simp only [List.zip_cons_cons, PyData.showableKv, Bool.and_eq_true]
    exact ⟨⟨h.1, h'.1⟩, showableKv_zip h.2 h'.2⟩
mutual
theorem showable_few : ∀ {v : Val}, v.few = true → (toPy v).showable = true
  | .none, _ => rfl
  | .bool _, _ => rfl
  | .int _, h => decide_eq_true (log_few (of_decide_eq_true h))
  | .str _, _ => rfl
  | .tup xs, h => showables_few (show Val.fews xs = true from h)
  | .list xs, h => showables_few (show Val.fews xs = true from h)
  | .dict ks vs, h => by
    have h' := Bool.and_eq_true_iff.mp (show (Val.fews ks && Val.fews vs) = true from h)
    exact showableKv_zip (showables_few h'.1) (showables_few h'.2)
  | .obj _ _ _, _ => rfl
  | .ref _, _ => rfl
  | .fn _, _ => rfl
  | .cls _, _ => rfl
  | .ty _, _ => rfl
  | .scr _, _ => rfl
theorem showables_few : ∀ {v : List Val}, Val.fews v = true → PyData.showableAll (toPys v) = true
  | [], _ => rfl
  | v :: r, h => by
    have h' := Bool.and_eq_true_iff.mp h
    exact Bool.and_eq_true_iff.mpr ⟨showable_few h'.1, showables_few h'.2⟩
end
theorem toPys_len : ∀ (l : List Val), (toPys l).length = l.length
  | [] => rfl
  | v :: r => congrArg Nat.succ (toPys_len r)
theorem entries_vals {P : Program} {w : World} : ∀ {kvs : List (Key × V)} {ws : List (Key × Value)} {es : List DictEntry}, KV kvs ws → Pairs (mixKind P w) es ws → Vals (kvs.map fun p => kV p.1) (es.map (·.key)) ∧ Vals (kvs.map Prod.snd) (es.map (·.val))
  | _, _, _, .nil, .nil => ⟨.nil, .nil⟩
  | p :: _, z :: _, _, .cons r t, .cons (e := e) q1 q2 u => by
    obtain ⟨h1, h2⟩ := entries_vals t u
    obtain ⟨e1, rv⟩ := r
    refine ⟨.cons ?_ h1, .cons ?_ h2⟩
    · show L2.RelV (kV p.1) e.key
      rw [e1]
      rcases keyIs_shape (show keyIs z.1 e.key = true from q1) with ⟨i, t, h, h'⟩ | ⟨i, t, h, h'⟩
      · rw [h, h']; exact ⟨t, rfl⟩
      · rw [h, h']; exact ⟨t, rfl⟩
    · show L2.RelV p.2 e.val
      rw [q2]; exact rv
mutual
theorem reads_td {S : RS} {pins : List (Addr × PySem.Obj)} {σ : L2.St} {s : Shared} (hK : S.K = X.K) (I : Inv X pins σ S.H s) : ∀ {v : Val} {x : V} {u : Value}, v.tupd = true → Rel S v x → RelV x u → ∃ as, Reads s.heap u (toPy v) as ∧ sysModules ∉ as
  | .none, _, _, _, h, r => by cases h; cases r; exact ⟨_, .none, by simp⟩
  | .bool b, _, _, _, h, r => by cases h; cases r; exact ⟨_, .bool b, by simp⟩
  | .int i, _, _, _, h, r => by cases h; obtain ⟨t, rfl⟩ := r; exact ⟨_, .int i t, by simp⟩
  | .str z, _, _, _, h, r => by obtain ⟨rfl, _⟩ := h; obtain ⟨t, rfl⟩ := r; exact ⟨_, .str _ t, by simp⟩
  | .tup xs, _, _, q, h, r => by
    obtain ⟨a, vs, rfl, f, h3⟩ := h
    cases r
    obtain ⟨its, rv, ⟨o, h1, h2, n, h4⟩, _⟩ := I.tuple (by rw [← hK]; exact f.sq)
    obtain ⟨as, R, hm⟩ := reads_tds hK I (show Val.tupds xs = true from q) h3 rv
    exact ⟨as, .tuple h1 h2 h4 (by simpa using R), hm⟩
  | .dict ks vs, _, _, q, h, r => by
    obtain ⟨a, kvs, rfl, f, hk, hv⟩ := h
    cases r
    have q' := Bool.and_eq_true_iff.mp (show (Val.tupds ks && Val.tupds vs && decide (ks.length = vs.length)) = true from q)
    have q'' := Bool.and_eq_true_iff.mp q'.1
    obtain ⟨_, hd, ws, rel, o, es, ep, h1, h2, h3, h4, h5, _⟩ := I.hok a _ f.1
    have e1 := entries_vals rel h5
    obtain ⟨as, R, hm⟩ := reads_tds hK I q''.1 hk e1.1
    obtain ⟨bs, R', hm'⟩ := reads_tds hK I q''.2 hv e1.2
    have hl : (toPys ks).length = (toPys vs).length := by rw [toPys_len, toPys_len]; exact of_decide_eq_true q'.2
    refine ⟨a :: as ++ bs, ?_, ?_⟩
    · refine Reads.dict h1 h2.1 h3 ?_ ?_
      · rw [List.map_fst_zip (by omega)]; exact R
      · rw [List.map_snd_zip (by omega)]; exact R'
    · simp only [List.cons_append, List.mem_cons, List.mem_append, not_or]
      exact ⟨fun e => by rw [← e] at hd; exact absurd hd (by decide), hm, hm'⟩
  | .list _, _, _, q, _, _ => by cases q
  | .obj _ _ _, _, _, q, _, _ => by cases q
  | .ref _, _, _, q, _, _ => by cases q
  | .fn _, _, _, q, _, _ => by cases q
  | .cls _, _, _, q, _, _ => by cases q
  | .ty _, _, _, q, _, _ => by cases q
  | .scr _, _, _, q, _, _ => by cases q
theorem reads_tds {S : RS} {pins : List (Addr × PySem.Obj)} {σ : L2.St} {s : Shared} (hK : S.K = X.K) (I : Inv X pins σ S.H s) : ∀ {v : List Val} {x : List V} {u : List Value}, Val.tupds v = true → Rels S v x → Vals x u → ∃ as, ReadsAll s.heap u (toPys v) as ∧ sysModules ∉ as
  | [], _, _, _, h, r => by cases h; cases r; exact ⟨_, .nil, by simp⟩
  | v :: t, _, _, q, h, r => by
    obtain ⟨x, y, rfl, h1, h2⟩ := h
    have q' := Bool.and_eq_true_iff.mp q
    cases r with
    | cons r1 r2 =>
      obtain ⟨as, R, m⟩ := reads_td hK I q'.1 h1 r1
      obtain ⟨bs, R', m'⟩ := reads_tds hK I q'.2 h2 r2
      exact ⟨as ++ bs, .cons R R', by simp [m, m']⟩
end

theorem rds_of {S : RS} (hK : S.K = X.K) (g : Good S) {v w : Val} {x : V} (r : Rel S v x) (e : dr S.h v = some w) (q : (w.flat || w.tupd) = true) : Rds X S.H x (toPy w) := fun pins σ s u I ru => by
  rcases Bool.or_eq_true_iff.mp q with q | q
  · obtain ⟨as, R⟩ := Dp.reads I (toPy w) x u (by rw [← hK]; exact dp_dr g r e q) ru
    exact ⟨as, R, fun z => by rw [noDict q] at z; cases z⟩
  · have d := dr_rel g r e
    have r2 : Rel S w x := by
      cases w with
      | list _ => cases q
      | ref _ => cases q
      | tup xs =>
        cases v with
        | tup ys => cases e; exact r
        | ref n =>
          unfold dr at e
          simp only at e
          cases z : S.h[n]? with
          | none => rw [z] at e; cases e
          | some o => rw [z] at e; cases o <;> cases e
        | _ => cases e
      | obj _ _ _ => cases q
      | _ => exact d
    obtain ⟨as, R, m⟩ := reads_td hK I q r2 ru
    exact ⟨as, R, fun _ => m⟩
theorem pr_repr : PRc X .repr (rRepr X) := fun S vs xs Q hK g r p => by
  obtain ⟨v, x, rfl, rfl, rv⟩ := one_of r (fun _ _ _ => rfl) rfl p
  have p : Post S (reprV S.h v) Q := p
  unfold reprV at p
  cases e : dr S.h v with
  | none => rw [e] at p; exact p.elim
  | some w =>
    rw [e] at p
    obtain ⟨c, p⟩ := ite_of p
    simp only [Bool.and_eq_true, decide_eq_true_eq] at c
    obtain ⟨⟨⟨c1, c2⟩, c3⟩, c4⟩ := c
    refine ⟨x, toPy w, rfl, rds_of hK g rv e c1, showable_few c2, Nat.le_trans (deep_py w) c3, ?_, ?_⟩
    · have h := (asc_iff.mp c4).2
      have e2 : (reprT w).length = (toPy w).shown.length := by show ((toPy w).shown.cps.toList).length = _; simp [Str.length]
      rw [← SL_eq, ← e2]; exact h
    · have h := old_str g c4 p
      exact h
end
end M
namespace M
open PySem PySem.Spec PyProof.Rows L2
/-! ### truth -/
section
variable {X : Cx}
theorem truth_of {S : RS} (g : Good S) {v : Val} {x : V} {b : Bool} (r : Rel S v x) (e : truth S.h v = some b) : TruV S.K x S.H b := by
  unfold truth at e
  cases q : dr S.h v with
  | none => rw [q] at e; cases e
  | some w =>
    rw [q] at e
    have d := dr_rel g r q
    cases w with
    | none => cases e; cases d; rfl
    | bool c => cases e; cases d; rfl
    | int i =>
      cases e; cases d
      show decide (i ≠ 0) = (i != 0)
      by_cases h : i = 0
      · subst h; rfl
      · rw [decide_eq_true h]; symm; simpa using h
    | str s =>
      cases e
      obtain ⟨rfl, a⟩ := d
      refine ⟨by rw [toS_len, ← SL_eq]; exact (asc_iff.mp a).2, ?_⟩
      rw [toS_len]
      cases s <;> rfl
    | tup xs =>
      cases e
      obtain ⟨a, ys, rfl, h, r⟩ := d
      refine .inr (.inl ⟨ys, h, ?_⟩)
      have := r.len
      cases xs <;> cases ys <;> first | rfl | simp at this
    | list xs =>
      cases e
      obtain ⟨a, ys, rfl, h, r⟩ := d
      refine .inl ⟨ys, .inl (.inl h), ?_⟩
      have := r.len
      cases xs <;> cases ys <;> first | rfl | simp at this
    | _ => cases e
theorem truthR_of {S : RS} {B D : Type} {R : RS → B → D → Prop} {v : Val} {k : Bool → Heap → Res B} {Q : D → Hp → Prop} (p : PostG R S ((truthR v S.h).bind k) Q) : ∃ b, truth S.h v = some b ∧ PostG R S (k b S.h) Q := by
  unfold truthR at p
  cases e : truth S.h v with
  | none => rw [e] at p; exact p.elim
  | some b => rw [e] at p; exact ⟨b, rfl, p⟩
/-- first f, then, in the new state, what g tells -/
theorem tM_bind {B D A' : Type} {C : Type} {K : PySem.W.Frag} {R : RS → A' → B → Prop} {R' : RS → C → D → Prop} {f : Loc → Heap → Res A'} {g : Loc → A' → Heap → Res C} {σ : L2.St} {H : Hp} {Q : D → Hp → Prop} {Z : B → Hp → Prop}
    (q : tG K R' (fun ls h => (f ls h).bind fun v h => g ls v h) σ H Q)
    (k : ∀ v x S ls, S.K = K → Good S → LRel S ls σ → R S v x → PostG R' S (g ls v S.h) Q → Z x S.H) : tG K R f σ H Z := tG.seq (g := g) q k
variable {f g f' : Loc → Heap → Res Val} {e a b d : Expr} {pos : Pos}
theorem pt_truthM (h : PE X e (tM X.K f)) (he : ∀ whole, isTrue e X.env whole = (do let v ← whole; standAt e.pos; holding [v] (truthy v))) : PT X e (tB X.K fun ls h => (f ls h).bind truthR) := by
  refine PT.wk (pt_truth h he) fun σ H Q q => ?_
  refine tM_bind (g := fun _ v h => truthR v h) q fun v x S ls hK g l r p => ?_
  have p : PostG RB S ((truthR v S.h).bind fun b h => .ok b h) Q := by
    cases q : truthR v S.h with
    | ok b h => rw [q] at p; exact p
    | exc _ _ => rw [q] at p; exact p
    | stuck => rw [q] at p; exact p
  obtain ⟨b, e1, p⟩ := truthR_of p
  exact ⟨b, by rw [← hK]; exact truth_of g r e1, PostG.here p g rfl⟩
/-! ### and, or, not, if -/
theorem tAndT_M (q : tM X.K (fun ls h => (f ls h).bind fun v h => (truthR v h).bind fun t h => if t then g ls h else .ok v h) σ H Q) : tAndT X.K (tM X.K f) (tM X.K g) σ H Q := by
  refine tM_bind (g := fun ls v h => (truthR v h).bind fun t h => if t then g ls h else .ok v h) q fun v x S ls hK g1 l r p => ?_
  obtain ⟨b, e1, p⟩ := truthR_of p
  refine ⟨b, by rw [← hK]; exact truth_of g1 r e1, ?_⟩
  cases b with
  | true => exact tG.mk hK g1 l p
  | false => exact old_val g1 r p
theorem tOrT_M (q : tM X.K (fun ls h => (f ls h).bind fun v h => (truthR v h).bind fun t h => if t then .ok v h else g ls h) σ H Q) : tOrT X.K (tM X.K f) (tM X.K g) σ H Q := by
  refine tM_bind (g := fun ls v h => (truthR v h).bind fun t h => if t then .ok v h else g ls h) q fun v x S ls hK g1 l r p => ?_
  obtain ⟨b, e1, p⟩ := truthR_of p
  refine ⟨b, by rw [← hK]; exact truth_of g1 r e1, ?_⟩
  cases b with
  | false => exact tG.mk hK g1 l p
  | true => exact old_val g1 r p
theorem tNotT_M (q : tM X.K (fun ls h => (f ls h).bind fun v h => (truthR v h).bind fun t h => .ok (.bool (!t)) h) σ H Q) : tNotT X.K (tM X.K f) σ H Q := by
  refine tM_bind (g := fun ls v h => (truthR v h).bind fun t h => .ok (Val.bool (!t)) h) q fun v x S ls hK g1 l r p => ?_
  obtain ⟨b, e1, p⟩ := truthR_of p
  exact ⟨b, by rw [← hK]; exact truth_of g1 r e1, old_bl g1 p⟩
variable {ft gt : Loc → Heap → Res Bool}
theorem tIf_M (q : tM X.K (fun ls h => (ft ls h).bind fun t h => if t then f ls h else g ls h) σ H Q) : tIf (tB X.K ft) (tM X.K f) (tM X.K g) σ H Q := by
  refine tM_bind (g := fun ls t h => if t then f ls h else g ls h) q fun t c S ls hK g1 l r p => ?_
  cases r
  cases t with
  | true => exact tG.mk hK g1 l p
  | false => exact tG.mk hK g1 l p
theorem tAnd_M (q : tB X.K (fun ls h => (ft ls h).bind fun t h => if t then gt ls h else .ok false h) σ H Q) : tAnd (tB X.K ft) (tB X.K gt) σ H Q := by
  refine tM_bind (g := fun ls t h => if t then gt ls h else .ok false h) q fun t c S ls hK g1 l r p => ?_
  cases r
  cases t with
  | true => exact tG.mk hK g1 l p
  | false => exact PostG.here p g1 rfl
theorem tOr_M (q : tB X.K (fun ls h => (ft ls h).bind fun t h => if t then .ok true h else gt ls h) σ H Q) : tOr (tB X.K ft) (tB X.K gt) σ H Q := by
  refine tM_bind (g := fun ls t h => if t then .ok true h else gt ls h) q fun t c S ls hK g1 l r p => ?_
  cases r
  cases t with
  | true => exact PostG.here p g1 rfl
  | false => exact tG.mk hK g1 l p
theorem tNot_M (q : tB X.K (fun ls h => (ft ls h).bind fun t h => .ok (!t) h) σ H Q) : tNot (tB X.K ft) σ H Q := by
  refine tM_bind (g := fun ls t h => .ok (!t) h) q fun t c S ls hK g1 l r p => ?_
  cases r
  exact PostG.here p g1 rfl
/-! ### operators -/
theorem tOp_M {p : P} {r : R2} (hp : PR2 X p r) (q : tM X.K (fun ls h => (f ls h).bind fun v h => (g ls h).bind fun w h => evP p [v, w] h) σ H Q) : tOp r (tM X.K f) (tM X.K g) σ H Q := by
  refine tM_bind (g := fun ls v h => (g ls h).bind fun w h => evP p [v, w] h) q fun v x S ls hK g1 l rv p1 => ?_
  exact tG.mk hK g1 l (PostG.bind p1 fun w y S2 _ g2 e2 r2 p2 => hp S2 v w x y Q (e2.K.trans hK) g2 (rv.ext e2) r2 p2)
theorem tUn_M {p : P} {r : V → Hp → VK → Prop} (hp : PR1 X p r) (q : tM X.K (fun ls h => (f ls h).bind fun v h => evP p [v] h) σ H Q) : tUn r (tM X.K f) σ H Q := by
  refine tM_bind (g := fun ls v h => evP p [v] h) q fun v x S ls hK g1 l rv p1 => ?_
  exact hp S v x Q hK g1 rv p1
/-- .. with a constant on the right -/
theorem tOpC_M {p : P} {r : R2} {y : V} (hp : PR1 X p (fun x H Q => r x y H Q)) (q : tM X.K (fun ls h => (f ls h).bind fun v h => evP p [v] h) σ H Q) : tOp r (tM X.K f) (tC y) σ H Q := by
  refine tM_bind (g := fun ls v h => evP p [v] h) q fun v x S ls hK g1 l rv p1 => ?_
  exact hp S v x Q hK g1 rv p1
def boolP (p : P) : Prop := ∀ (vs : List Val) (h h' : Heap) (v : Val), evP p vs h = .ok v h' → ∃ b, v = .bool b
/-- a comparison's value as a test -/
theorem tTest_M {t : TE} {F : Loc → Heap → Res Val} (ht : ∀ σ H Q, tM X.K F σ H Q → t σ H Q) (hb : ∀ ls h h' v, F ls h = .ok v h' → ∃ b, v = .bool b) (q : tB X.K (fun ls h => (F ls h).bind truthR) σ H Q) : tTest t σ H Q := by
  refine ht σ H _ ?_
  obtain ⟨S, ls, hK, hH, g, l, p⟩ := q
  subst hH
  refine ⟨S, ls, hK, rfl, g, l, ?_⟩
  have p : PostG RB S ((F ls S.h).bind truthR) Q := p
  cases e : F ls S.h with
  | ok v h =>
    rw [e] at p
    obtain ⟨b, rfl⟩ := hb _ _ _ _ e
    intro S' x e1 g' e2 r
    cases r
    exact ⟨b, rfl, p S' b e1 g' e2 rfl⟩
  | exc _ _ => rw [e] at p; exact p
  | stuck => rw [e] at p; exact p
theorem tChain_M {p q : P} {r r' : R2} (hp : PR2 X p r) (hq : PR2 X q r') (hb : boolP p) (z : tM X.K (fun ls h => (f ls h).bind fun x h => (g ls h).bind fun y h => (evP p [x, y] h).bind fun (v : Val) h => (match v with
    | .bool true => (f' ls h).bind fun z h => evP q [y, z] h
    | .bool false => .ok (.bool false) h
    | _ => .stuck)) σ H Q) : tChain r r' (tM X.K f) (tM X.K g) (tM X.K f') σ H Q := by
  refine tM_bind (g := fun ls x h => (g ls h).bind fun y h => (evP p [x, y] h).bind fun (v : Val) h => (match v with
    | .bool true => (f' ls h).bind fun z h => evP q [y, z] h
    | .bool false => .ok (.bool false) h
    | _ => .stuck)) z fun v x S ls hK g1 l rv p1 => ?_
  refine tG.mk hK g1 l (PostG.bind p1 fun w y S2 _ g2 e2 r2 p2 => ?_)
  refine hp S2 v w x y _ (e2.K.trans hK) g2 (rv.ext e2) r2 ?_
  cases e : evP p [v, w] S2.h with
  | ok u h =>
    rw [e] at p2
    obtain ⟨b, rfl⟩ := hb _ _ _ _ e
    intro S3 zz h3 g3 e3 r3
    cases r3
    subst h3
    refine ⟨b, rfl, ?_⟩
    have p3 := PostG.ext p2 e3
    cases b with
    | false => exact old_bl g3 p3
    | true =>
      have hK3 : S3.K = X.K := e3.K.trans (e2.K.trans hK)
      refine tG.mk hK3 g3 ((l.ext e2).ext e3) (PostG.bind (g := fun z h => evP q [w, z] h) p3 fun z zv S4 _ g4 e4 r4 p4 => ?_)
      exact hq S4 w z y zv Q (e4.K.trans hK3) g4 ((r2.ext e3).ext e4) r4 p4
  | exc _ _ => rw [e] at p2; exact p2
  | stuck => rw [e] at p2; exact p2
/-! ### calls of built-ins, displays -/
variable {fs : Loc → Heap → Res (List Val)}
theorem tCB_M {p : P} {r : List V → Hp → VK → Prop} (hp : PRc X p r) (q : tM X.K (fun ls h => (fs ls h).bind fun vs h => evP p vs h) σ H Q) : tCB r (tAs X.K fs) σ H Q :=
  tM_bind (g := fun ls vs h => evP p vs h) q fun vs xs S ls hK g1 l rv p1 => hp S vs xs Q hK g1 rv p1
theorem tTup_M (q : tM X.K (fun ls h => (fs ls h).bind fun vs h => evP .tup vs h) σ H Q) : tTup (tAs X.K fs) σ H Q :=
  tM_bind (g := fun ls vs h => evP .tup vs h) q fun vs xs S ls hK g1 l rv p1 => by
    obtain ⟨c, p1⟩ := okTup_of (vs := vs) p1
    exact ⟨by rw [← rv.len]; exact c, fun p n => new_tup g1 rv p1 n⟩
theorem tLst_M {m : Bool} (q : tM X.K (fun ls h => (fs ls h).bind fun vs h => evP (.list m) vs h) σ H Q) : tLst (tAs X.K fs) σ H Q :=
  tM_bind (g := fun ls vs h => evP (.list m) vs h) q fun vs xs S ls hK g1 l rv p1 => by
    have p1 : Post S (okList m vs S.h) Q := by
      match vs, p1 with
      | [], p1 => exact p1
      | [_], p1 => exact p1
      | [_, _], p1 => exact p1
      | [_, _, _], p1 => exact p1
      | _ :: _ :: _ :: _ :: _, p1 => exact p1
    obtain ⟨c, k⟩ := okList_of g1 rv p1
    exact ⟨by rw [← rv.len]; exact c, k⟩
theorem tBM_M {p : P} {T : String} {r : V → List V → Hp → VK → Prop} (hp : PRm X p T r) (ht : ∀ {S : RS} {v : Val} {x : V}, Good S → Rel S v x → recv p v S.h = true → tyV S.K T x S.H)
    (q : tM X.K (fun ls h => (f ls h).bind fun v h => if recv p v h then (fs ls h).bind fun vs h => evP p (v :: vs) h else .stuck) σ H Q) : tBM X.K T r (tM X.K f) (tAs X.K fs) σ H Q :=
  tM_bind (g := fun ls v h => if recv p v h then (fs ls h).bind fun vs h => evP p (v :: vs) h else .stuck) q fun v x S ls hK g1 l rv p1 => by
    obtain ⟨c, p1⟩ := ite_of p1
    exact ⟨by rw [← hK]; exact ht g1 rv c, tG.mk hK g1 l (PostG.bind p1 fun vs xs S2 _ g2 e2 r2 p2 => hp S2 v vs x xs Q (e2.K.trans hK) g2 (rv.ext e2) r2 p2)⟩
theorem tBM0_M {p : P} {T : String} {r : V → List V → Hp → VK → Prop} (hp : PRm X p T r) (ht : ∀ {S : RS} {v : Val} {x : V}, Good S → Rel S v x → recv p v S.h = true → tyV S.K T x S.H)
    (q : tM X.K (fun ls h => (f ls h).bind fun v h => if recv p v h then evP p [v] h else .stuck) σ H Q) : tBM0 X.K T r (tM X.K f) σ H Q :=
  tM_bind (g := fun ls v h => if recv p v h then evP p [v] h else .stuck) q fun v x S ls hK g1 l rv p1 => by
    obtain ⟨c, p1⟩ := ite_of p1
    exact ⟨by rw [← hK]; exact ht g1 rv c, hp S v [] x [] Q hK g1 rv rfl p1⟩
end
end M
namespace M
open PySem PySem.Spec PyProof.Rows L2
/-! ### the text's forms -/
/-- no star, no slice, no set -/
def plainE : Expr → Bool
  | .Starred .. => false
  | .Slice .. => false
  | .Set .. => false
  | _ => true
theorem star_plain {e : Expr} {es : List Expr} {env : Env} (h : plainE e = true) : starEach (e :: es) env = (false, eval e env) :: starEach es env := by
  cases e <;> first | rfl | cases h
theorem ix_plain {e : Expr} (h : plainE e = true) : PlainIx e := by
  intro o i
  cases e <;> first | rfl | cases h
theorem mark_plain {op : CmpOp} {e : Expr} (h : plainE e = true) : behindInMarks op e = false := by
  cases e <;> first | rfl | cases h
theorem fold_plain {e : Expr} {env : Env} (h : plainE e = true) : ∀ x, foldedSetIterable e env x = pure x := by
  intro x
  cases e <;> first | rfl | cases h
/-- its test is its value's truth -/
def trueE : Expr → Bool
  | .UnaryOp .Not .. => false
  | .BoolOp .. => false
  | .IfExp .. => false
  | .Compare .. => false
  | _ => true
theorem true_plain {e : Expr} {env : Env} (h : trueE e = true) : ∀ whole, isTrue e env whole = (do let v ← whole; standAt e.pos; holding [v] (truthy v)) := by
  intro whole
  cases e with
  | UnaryOp op a p => cases op <;> first | rfl | cases h
  | BoolOp _ _ _ => cases h
  | IfExp _ _ _ _ => cases h
  | Compare _ _ _ _ => cases h
  | _ => rfl
/-- no call without arguments by a name (super) -/
def baseE : Expr → Bool
  | .Call (.Name _ _) [] [] _ => false
  | _ => true
theorem base_plain {o : Expr} {m : Str} {env : Env} (h : baseE o = true) : attributeBase o m env (eval o env) = eval o env := by
  cases o with
  | Call f as ks p =>
    cases f with
    | Name x q =>
      cases as with
      | nil =>
        cases ks with
        | nil => cases h
        | cons _ _ => rfl
      | cons _ _ => rfl
    | _ => rfl
  | _ => rfl
def compE : Expr → Bool
  | .ListComp .. => true
  | .SetComp .. => true
  | .DictComp .. => true
  | _ => false
theorem swap_plain {e : Expr} {t : Option Expr} {l : Nat} {env : Env} (h : compE e = false) : swapsWith e t l env = pure false := by
  cases e <;> first | rfl | cases h
def plainsE (es : List Expr) : Bool := es.all plainE
theorem backs_plain {pos : Pos} {env : Env} : ∀ {es : List Expr}, plainsE es = true → (backTo pos (starEach es env)).any (·.1) = false
  | [], _ => rfl
  | e :: es, h => by
    have h' := Bool.and_eq_true_iff.mp (show (plainE e && plainsE es) = true from h)
    rw [star_plain h'.1]
    show (false || (backTo pos (starEach es env)).any (·.1)) = false
    rw [backs_plain h'.2]
    exact rfl
theorem backs_all {pos : Pos} {env : Env} : ∀ {es : List Expr}, plainsE es = true → (backTo pos (starEach es env)).all (fun x => !x.1) = true
  | [], _ => rfl
  | e :: es, h => by
    have h' := Bool.and_eq_true_iff.mp (show (plainE e && plainsE es) = true from h)
    rw [star_plain h'.1]
    show (true && (backTo pos (starEach es env)).all (fun x => !x.1)) = true
    rw [backs_all h'.2]
    exact rfl
def kwsE (ks : List Keyword) : Bool := ks.all fun k => k.arg.isSome
def kwN (ks : List Keyword) : List Str := ks.filterMap fun k => k.arg
theorem kw_facts {pos : Pos} {env : Env} : ∀ {ks : List Keyword}, kwsE ks = true → (backToKw pos (keywordEach ks env)).all (·.1.isSome) = true ∧ (backToKw pos (keywordEach ks env)).any (·.1.isNone) = false ∧ (backToKw pos (keywordEach ks env)).filterMap (·.1) = kwN ks
  | [], _ => ⟨rfl, rfl, rfl⟩
  | ⟨n, v, p⟩ :: ks, h => by
    have h' := Bool.and_eq_true_iff.mp (show (n.isSome && kwsE ks) = true from h)
    obtain ⟨h1, h2, h3⟩ := kw_facts (pos := pos) (env := env) h'.2
    cases n with
    | none => cases h'.1
    | some n =>
      refine ⟨?_, ?_, ?_⟩
      · show (true && (backToKw pos (keywordEach ks env)).all (·.1.isSome)) = true
        rw [h1]; exact rfl
      · show (false || (backToKw pos (keywordEach ks env)).any (·.1.isNone)) = false
        rw [h2]; exact rfl
      · show n :: (backToKw pos (keywordEach ks env)).filterMap (·.1) = n :: kwN ks
        rw [h3]
/-! ### what is called -/
/-- the parameters' values, picked -/
def SelR (K : PySem.W.Frag) (us : List Value) : Sum Nat Val → Value → Prop
  | .inl j, z => us[j]? = some z
  | .inr v, z => ∃ y, RelV y z ∧ ∀ S : RS, S.K = K → Rel S v y
structure Shape where
  n : Nat
  ks : List Str
  sel : List (Sum Nat Val)
  deriving Inhabited
def Bnd (K : PySem.W.Frag) (fd : FuncData) (ps : List Str) (sh : Shape) : Prop :=
  ∀ (s : Shared) (us ws : List Value), K.In s.heap → us.length = sh.n → ws.length = sh.ks.length → ∃ zs : List Value, Paired (SelR K (us ++ ws)) sh.sel zs ∧ BindsTo s fd ⟨us, sh.ks.zip ws⟩ (ps.zip zs)
def CXF : CXT := fun _ _ _ _ _ _ => False
def EF : XK := fun _ _ _ => False
/-- a def does what cl says -/
def FnG (P : Program) (w : World) (K : PySem.W.Frag) (mg : Str → Option Value) (base : PySem.Heap) (k : Nat) (f : Addr) (fd : FuncData) (ps : List Str) (cl : List Val → Heap → Res Val) : Prop :=
  ∀ (A : Around) (outer : List Env) (s : Shared) (S : RS) (args : Args) (us : List Value) (xs : List V) (vs : List Val) (Q : VK), Room k A → A.guards = some [] → S.K = K → Good S → Env0 P w K mg base A outer s S.H → BindsTo s fd args (ps.zip us) →
    Vals xs us → Rels S vs xs → Post S (cl vs S.h) Q → codeAny (model P w) A (.call (.ref f) args) (CR CXF outer P w S.H s Q EF) s
structure FnS where
  x : Str
  shapes : List Shape
/-- what a body knows -/
structure Ck where
  N : List Str
  sc : Scope
  st : List Str
  fns : List FnS
  gls : List (Str × Val)
  bl : List Str
structure CF (X : Cx) (c : Ck) (k : Nat) (cl : CallFn) : Prop where
  hN : X.N = c.N
  nd : c.N.Nodup
  sc : X.env.scope = c.sc
  kind : c.sc.kind = .function
  calm : X.calm = true
  guards : X.A.guards = some []
  room : Room k X.A
  st : ∀ x ∈ c.st, L2.Loc X.env.scope x ∧ (X.fn x = true ∨ X.env.scope.names.lookup x = some .local)
  bl : ∀ x ∈ c.bl, X.mg x = none
  gl : ∀ p ∈ c.gls, ∃ u y, X.mg p.1 = some u ∧ RelV y u ∧ ∀ S : RS, S.K = X.K → Rel S p.2 y
  fns : ∀ (i : Nat) (e : FnS), c.fns[i]? = some e → ∃ f fd ps, X.mg e.x = some (.ref f) ∧ PySem.W.keepIn X.K (.ref f) = true ∧ (∀ sh ∈ e.shapes, Bnd X.K fd ps sh) ∧ FnG X.prog X.w X.K X.mg X.base k f fd ps (cl i)
/-! ### names -/
def visB (sc : Scope) (x : Str) : Bool := match sc.names.lookup x with
  | some .local => true
  | some .cell => true
  | some .free => true
  | _ => false
theorem visB_ok {sc : Scope} {x : Str} (h : visB sc x = true) : Vis sc x := by
  unfold visB at h
  split at h <;> first | (rename_i e; first | exact .inl e | exact .inr (.inl e) | exact .inr (.inr e)) | cases h
def glB (sc : Scope) (x : Str) : Bool := match sc.names.lookup x with
  | some .globalImplicit => true
  | _ => false
theorem glB_ok {X : Cx} {c : Ck} {k : Nat} {cl : CallFn} (F : CF X c k cl) {x : Str} (h : glB c.sc x = true) : Gl X x := by
  unfold glB at h
  show X.env.scope.names.lookup x = some .globalImplicit
  rw [F.sc]
  split at h
  · assumption
  · cases h
def nmOk (x : Str) : Bool := !(x == ("__debug__" : Str)) && !(x == ("__classdict__" : Str)) && !(x == ("__name__" : Str))
theorem nmOk_ok {x : Str} (h : nmOk x = true) : (x == ("__debug__" : Str)) = false ∧ (x == ("__classdict__" : Str)) = false ∧ x ≠ ("__name__" : Str) := by
  unfold nmOk at h
  simp only [Bool.and_eq_true, Bool.not_eq_true'] at h
  exact ⟨h.1.1, h.1.2, fun e => by have := h.2; rw [e] at this; exact absurd this (by decide)⟩
def inL (x : Str) (l : List Str) : Bool := l.any fun y => y == x
theorem inL_ok {x : Str} {l : List Str} (h : inL x l = true) : x ∈ l := by
  unfold inL at h
  rw [List.any_eq_true] at h
  obtain ⟨y, h1, h2⟩ := h
  rw [← eq_of_beq h2]; exact h1
section
variable {X : Cx} {c : Ck} {k : Nat} {cl : CallFn}
theorem CF.units (F : CF X c k cl) : X.A.units + 65 < cLine := by have := F.room.un; omega
theorem pe_varM (F : CF X c k cl) {i : Nat} {x : Str} {pos : Pos} (hN : c.N[i]? = some x) (hv : visB c.sc x = true) (hn : nmOk x = true) : PE X (.Name x pos) (tM X.K (evE cl (.var i))) := by
  obtain ⟨h1, h2, _⟩ := nmOk_ok hn
  exact pe_vr (by rw [F.hN]; exact hN) (by rw [F.sc]; exact visB_ok hv) h1 h2
theorem pe_glbM (F : CF X c k cl) {v : Val} {x : Str} {pos : Pos} (hm : (x, v) ∈ c.gls) (hg : glB c.sc x = true) (hn : nmOk x = true) : PE X (.Name x pos) (tM X.K (evE cl (.lit v))) := by
  obtain ⟨h1, h2, _⟩ := nmOk_ok hn
  obtain ⟨u, y, hu, r, rs⟩ := F.gl _ hm
  refine PE.wk (pe_glob (glB_ok F hg) hu r h1) fun σ H Q q => ?_
  obtain ⟨S, ls, hK, hH, g, l, p⟩ := q
  subst hH
  exact PostG.here p g (rs S hK)
end
/-! ### dict displays of constants -/
section
variable {X : Cx} {c : Ck} {k : Nat} {cl : CallFn}
def keyC : Const → Option (Key × Val)
  | .int i => some (.inl i, .int i)
  | .str s => if asc s.cps.toList then some (.inr s, .str s.cps.toList) else none
  | _ => none
def litC : Const → Option Val
  | .none => some .none
  | .bool b => some (.bool b)
  | .int i => some (.int i)
  | .str s => if asc s.cps.toList then some (.str s.cps.toList) else none
  | _ => none
theorem pe_litC {ck : Const} {j : Nat} {pos : Pos} {v : Val} (h : litC ck = some v) : ∃ x, PE X (.Constant ck j pos) (tC x) ∧ ∀ S : RS, Rel S v x := by
  cases ck with
  | none => cases h; exact ⟨_, pe_non, fun _ => rfl⟩
  | bool b => cases h; exact ⟨_, pe_bl, fun _ => rfl⟩
  | int i => cases h; exact ⟨_, pe_int, fun _ => rfl⟩
  | str s =>
    unfold litC at h
    simp only at h
    split at h
    · rename_i a; cases h; exact ⟨_, pe_str, fun _ => ⟨rfl, a⟩⟩
    · cases h
  | _ => cases h
theorem pe_keyC {ck : Const} {j : Nat} {pos : Pos} {y : Key} {v : Val} (h : keyC ck = some (y, v)) : PE X (.Constant ck j pos) (tC (kV y)) ∧ ∀ S : RS, Rel S v (kV y) := by
  cases ck with
  | int i => cases h; exact ⟨pe_int, fun _ => rfl⟩
  | str s =>
    unfold keyC at h
    simp only at h
    split at h
    · rename_i a; cases h; exact ⟨pe_str, fun _ => ⟨rfl, a⟩⟩
    · cases h
  | _ => cases h
theorem pe_litM {ck : Const} {j : Nat} {pos : Pos} {v : Val} (h : litC ck = some v) : PE X (.Constant ck j pos) (tM X.K (evE cl (.lit v))) := by
  obtain ⟨x, hx, r⟩ := pe_litC (X := X) (j := j) (pos := pos) h
  refine PE.wk hx fun σ H Q q => ?_
  obtain ⟨S, ls, hK, hH, g, l, p⟩ := q
  subst hH
  exact PostG.here p g (r S)
theorem pe_dict0 {pos : Pos} : PE X (.Dict [] [] pos) (tM X.K (evE cl (.lit (.dict [] [])))) := by
  refine PE.wk pe_dnewK fun σ H Q q => ?_
  obtain ⟨S, ls, hK, hH, g, l, p⟩ := q
  subst hH
  intro a n
  exact p (S.put a (.dK [])) _ rfl (good_put g n) (ext_put n) (rel_dic (kvs := []) g n rfl rfl)
theorem pe_dict1 {pos p1 p2 : Pos} {ck cv : Const} {j1 j2 : Nat} {y : Key} {kv v : Val} (hk : keyC ck = some (y, kv)) (hv : litC cv = some v) :
    PE X (.Dict [some (.Constant ck j1 p1)] [.Constant cv j2 p2] pos) (tM X.K (evE cl (.lit (.dict [kv] [v])))) := by
  obtain ⟨h1, r1⟩ := pe_keyC (X := X) (j := j1) (pos := p1) hk
  obtain ⟨x, h2, r2⟩ := pe_litC (X := X) (j := j2) (pos := p2) hv
  refine PE.wk (pe_disp (pps_cons h1 h2 pps_nil) rfl rfl (by simp) (Nat.le_of_ble_eq_true rfl)) fun σ H Q q => ?_
  obtain ⟨S, ls, hK, hH, g, l, p⟩ := q
  subst hH
  intro a n
  refine ⟨upd_same, [(y, x)], rfl, Nat.le_of_ble_eq_true rfl, ?_⟩
  rw [upd_upd]
  exact p (S.put a (.dK [(y, x)])) _ rfl (good_put g n) (ext_put n) (rel_dic (kvs := [(y, x)]) g n ⟨_, [], rfl, r1 S, rfl⟩ ⟨_, [], rfl, r2 S, rfl⟩)
end
end M
namespace M
open PySem PySem.Spec PyProof.Rows L2
section
variable {X : Cx} {c : Ck} {k : Nat} {cl : CallFn}
theorem pk_nilM : PK X [] (tAs X.K (evEs cl [])) := by
  refine ⟨fun pos pins s σ H Q I q => ?_⟩
  refine pk_nil.run pos pins s σ H Q I ?_
  obtain ⟨S, ls, hK, hH, g, l, p⟩ := q
  subst hH
  exact PostG.here p g (show Rels S [] [] from rfl)
theorem tCons_M {f : Loc → Heap → Res Val} {fs : Loc → Heap → Res (List Val)} {σ : L2.St} {H : Hp} {Q : List V → Hp → Prop}
    (q : tAs X.K (fun ls h => (f ls h).bind fun v h => (fs ls h).bind fun vs h => .ok (v :: vs) h) σ H Q) : tCons (tM X.K f) (tAs X.K fs) σ H Q := by
  refine tG.seq (g := fun ls v h => (fs ls h).bind fun vs h => .ok (v :: vs) h) q fun v x S1 ls hK g1 l1 r1 p1 => ?_
  exact tG.mk hK g1 l1 (PostG.bind p1 fun vs xs S2 _ g2 e2 r2 p2 => PostG.here p2 g2 ⟨x, xs, rfl, r1.ext e2, r2⟩)
theorem pk_consM {m : ME} {ms : List ME} {e : Expr} {nm : Option Str} {kpos : Pos} {kws : List Keyword} (ha : PE X e (tM X.K (evE cl m))) (hr : PK X kws (tAs X.K (evEs cl ms))) : PK X (⟨nm, e, kpos⟩ :: kws) (tAs X.K (evEs cl (m :: ms))) :=
  ⟨fun pos pins s σ H Q I q => (pk_cons ha hr).run pos pins s σ H Q I (tCons_M q)⟩
theorem sel_rel {S : RS} : ∀ {sel : List (Sum Nat Val)} {us zs : List Value} {xs : List V} {vs zv : List Val}, Paired (SelR S.K us) sel zs → selV sel vs = some zv → Vals xs us → Rels S vs xs → ∃ ys, Vals ys zs ∧ Rels S zv ys
  | _, us, _, xs, vs, zv, .nil, e, r, q => by cases e; exact ⟨[], .nil, rfl⟩
  | _, us, _, xs, vs, zv, .cons (a := a) (b := b) h t, e, r, q => by
    cases a with
    | inl j =>
      unfold selV at e
      cases e1 : vs[j]? with
      | none => rw [e1] at e; cases e
      | some v =>
        rename_i sel zs
        cases e2 : selV sel vs with
        | none => rw [e1, e2] at e; cases e
        | some l =>
          rw [e1, e2] at e
          cases e
          obtain ⟨ys, h1, h2⟩ := sel_rel t e2 r q
          obtain ⟨x, hx, rx⟩ := q.get e1
          obtain ⟨u, hu, ru⟩ := r.get hx
          have hb : us[j]? = some b := h
          rw [hu] at hb
          cases hb
          exact ⟨x :: ys, .cons ru h1, ⟨x, ys, rfl, rx, h2⟩⟩
    | inr v =>
      unfold selV at e
      rename_i sel zs
      cases e2 : selV sel vs with
      | none => rw [e2] at e; cases e
      | some l =>
        rw [e2] at e
        cases e
        obtain ⟨ys, h1, h2⟩ := sel_rel t e2 r q
        obtain ⟨y, ry, rs⟩ := h
        exact ⟨y :: ys, .cons ry h1, ⟨y, ys, rfl, rs S rfl, h2⟩⟩
/-- the callee runs -/
theorem run_M (F : CF X c k cl) {i : Nat} {f : Addr} {fd : FuncData} {ps : List Str} {sh : Shape} {pins : List (Addr × PySem.Obj)} {σ : L2.St} {s : Shared} {S : RS} {Q : VK} {us ws : List Value} {xs ys : List V} {vs wv : List Val}
    (hb : Bnd X.K fd ps sh) (G : FnG X.prog X.w X.K X.mg X.base k f fd ps (cl i)) (I : Inv X pins σ S.H s) (hK : S.K = X.K) (g : Good S) (r : Vals xs us) (q : Rels S vs xs) (r2 : Vals ys ws) (q2 : Rels S wv ys)
    (l1 : us.length = sh.n) (l2 : ws.length = sh.ks.length) (p : Post S (match selV sh.sel (vs ++ wv) with
      | some us => cl i us S.h
      | none => .stuck) Q) : wpAny (model X.prog X.w) X.A (call (.ref f) us (sh.ks.zip ws)) (EP X pins σ Q) X.xe s := by
  obtain ⟨zs, hz, hB⟩ := hb s us ws I.kIn l1 l2
  cases e : selV sh.sel (vs ++ wv) with
  | none => rw [e] at p; exact p.elim
  | some zv =>
    rw [e] at p
    obtain ⟨zx, h1, h2⟩ := sel_rel (S := S) (by rw [hK]; exact hz) e (r.append r2) (q.app q2)
    refine wpAny_call (codeAny_mono (G X.A X.stack s S ⟨us, sh.ks.zip ws⟩ zs zx zv Q F.room F.guards hK g I.env0 hB h1 h2 p) fun r s' hq => ?_)
    cases r with
    | error e => exact False.elim hq
    | ok fl =>
      cases fl with
      | ret u => exact I.after hq
      | next => exact False.elim hq
      | brk => exact False.elim hq
      | cont => exact False.elim hq
theorem pe_callM (F : CF X c k cl) {i : Nat} {fe : FnS} {sh : Shape} {args : List Expr} {kws : List Keyword} {p pos : Pos} {es kes : List ME} (hi : c.fns[i]? = some fe) (hs : sh ∈ fe.shapes) (hg : glB c.sc fe.x = true) (hn : nmOk fe.x = true)
    (hp : plainsE args = true) (hk : kwsE kws = true) (hks : kwN kws = sh.ks) (hl : args.length = sh.n) (hle : es.length = args.length) (hlk : kes.length = sh.ks.length) (ha : PA X args (tAs X.K (evEs cl es))) (hkw : PK X kws (tAs X.K (evEs cl kes))) :
    PE X (.Call (.Name fe.x p) args kws pos) (tM X.K (evE cl (.call i es kes sh.sel))) := by
  obtain ⟨h1, _, _⟩ := nmOk_ok hn
  obtain ⟨f, fd, ps, hm, kp, hB, G⟩ := F.fns i fe hi
  obtain ⟨k1, k2, k3⟩ := kw_facts (pos := pos) (env := X.env) hk
  have lenE : ∀ (es : List ME) (ls : Loc) (h h' : Heap) (vs : List Val), evEs cl es ls h = .ok vs h' → vs.length = es.length := by
    intro es
    induction es with
    | nil => intro ls h h' vs e; cases e; rfl
    | cons m r ih =>
      intro ls h h' vs e
      unfold evEs at e
      cases e1 : evE cl m ls h with
      | ok v h1 =>
        rw [e1] at e
        simp only [bind_ok] at e
        cases e2 : evEs cl r ls h1 with
        | ok ws h2 => rw [e2] at e; cases e; rw [List.length_cons, ih _ _ _ _ e2, List.length_cons]
        | exc _ _ => rw [e2] at e; cases e
        | stuck => rw [e2] at e; cases e
      | exc _ _ => rw [e1] at e; cases e
      | stuck => rw [e1] at e; cases e
  refine ⟨fun pins s σ H Q I q => ?_⟩
  refine wpAny_Call_Name_kw (ld_glob I (glB_ok F hg) hm ?_ h1)
  have fin : ∀ {s1 : Shared} {us : List Value} {vs : List V} {H1 : Hp}, Inv X pins σ H1 s1 → Vals vs us → vs.length = sh.n → tAs X.K (evEs cl kes) σ H1 (fun zs H2 => zs.length = sh.ks.length ∧ ∀ us ws s2, Inv X pins σ H2 s2 → Vals vs us → Vals zs ws → wpAny (model X.prog X.w) X.A (call (.ref f) us (sh.ks.zip ws)) (EP X pins σ Q) X.xe s2) →
      wpAny (model X.prog X.w) X.A (evalAll ((backToKw pos (keywordEach kws X.env)).map (·.2))) (fun ks s2 => X.K.In s2.heap ∧ wpAny (model X.prog X.w) X.A (call (.ref f) ([] ++ us) (((backToKw pos (keywordEach kws X.env)).filterMap (·.1)).zip ks)) (EP X pins σ Q) X.xe s2) X.xe s1 := by
    intro s1 us vs H1 I1 r l q1
    refine thn (hkw.run pos pins s1 σ H1 _ I1 q1) fun ws s2 ⟨zs, H2, I2, rz, lz, q2⟩ => ⟨I2.kIn, ?_⟩
    rw [k3, hks]
    exact q2 us ws s2 I2 r rz
  have q' : tAs X.K (evEs cl es) σ H fun vs H1 => vs.length = sh.n ∧ tAs X.K (evEs cl kes) σ H1 (fun zs H2 => zs.length = sh.ks.length ∧ ∀ us ws s2, Inv X pins σ H2 s2 → Vals vs us → Vals zs ws → wpAny (model X.prog X.w) X.A (call (.ref f) us (sh.ks.zip ws)) (EP X pins σ Q) X.xe s2) := by
    obtain ⟨S0, ls, hK0, hH0, g0, l0, p0⟩ := q
    subst hH0
    refine ⟨S0, ls, hK0, rfl, g0, l0, ?_⟩
    refine PostG.bind (g := fun vs h => (evEs cl kes ls h).bind fun ws h => match selV sh.sel (vs ++ ws) with
      | some us => cl i us h
      | none => .stuck) p0 fun vs xs S1 e1 g1 x1 r1 p1 => ?_
    have hK1 : S1.K = X.K := x1.K.trans hK0
    refine ⟨by rw [← r1.len, lenE _ _ _ _ _ e1, hle, hl], ?_⟩
    refine ⟨S1, ls, hK1, rfl, g1, l0.ext x1, ?_⟩
    refine PostG.bind p1 fun wv ys S2 e2 g2 x2 r2 p2 => ?_
    refine ⟨by rw [← r2.len, lenE _ _ _ _ _ e2, hlk], fun us ws s2 I2 ru rw_ => ?_⟩
    refine run_M F (hB sh hs) G I2 (x2.K.trans hK1) g2 ru (r1.ext x2) rw_ r2 ?_ ?_ p2
    · rw [← ru.length, ← r1.len, lenE _ _ _ _ _ e1, hle, hl]
    · rw [← rw_.length, ← r2.len, lenE _ _ _ _ _ e2, hlk]
  cases args with
  | nil =>
    refine PySem.W.callWith_KW0 (h₀ := X.base) I.ok.mod.kin kp k1 ?_ (by show (false || _) = false; rw [k2]; exact rfl)
    have pa0 := ha.run pos pins s σ H _ I q'
    cases es with
    | nil =>
      obtain ⟨S0, ls, hK0, hH0, g0, l0, p0⟩ := q'
      subst hH0
      obtain ⟨l1, q1⟩ := PostG.here p0 g0 (show Rels S0 [] [] from rfl)
      exact fin (us := []) I .nil l1 q1
    | cons _ _ => cases hle
  | cons e args =>
    have hp' := Bool.and_eq_true_iff.mp (show (plainE e && plainsE args) = true from hp)
    refine PySem.W.callWith_KW (h₀ := X.base) I.ok.mod.kin kp k1 (thn (ha.run pos pins s σ H _ I q') fun us s1 ⟨vs, H1, I1, r, l1, q1⟩ => fin I1 r l1 q1) ?_ (star_plain hp'.1)
    rw [backs_plain hp, k2]; exact rfl
end
end M
namespace M
open PySem PySem.Spec PyProof.Rows L2
/-- an iterator that hands on these items, as long as what it walks stands -/
def RI (S : RS) (p : List Val × Pin) (J : It) : Prop := ∀ S2 : RS, Ext S S2 → Good S2 → pinned S2.h p.2 = true → ∀ i : Nat,
  (∀ v, p.1[i]? = some v → J.go i S2.H ∧ ∀ x H', J.yld i S2.H x H' → ∃ S3 : RS, S3.H = H' ∧ S3.h = S2.h ∧ Good S3 ∧ Ext S2 S3 ∧ Rel S3 v x) ∧ (p.1[i]? = none → J.stop i S2.H)
theorem RI.ext {S S' : RS} {p : List Val × Pin} {J : It} (h : RI S p J) (e : Ext S S') : RI S' p J := fun S2 e2 => h S2 (e.trans e2)
theorem get_len {vs : List Val} {xs : List V} {S : RS} {i : Nat} (r : Rels S vs xs) (h : vs[i]? = none) : xs.length ≤ i := by
  rw [← r.len]
  exact List.getElem?_eq_none_iff.mp h
/-- one turn over a thing read as it stands -/
theorem ri_list {K : PySem.W.Frag} {S : RS} {a : Addr} {l : List Val} {pin : Pin} (h : ∀ S2 : RS, Ext S S2 → Good S2 → pinned S2.h pin = true → ∃ ys, SqL K S2.H a ys ∧ Rels S2 l ys) : RI S (l, pin) (Itl K a) := fun S2 e2 g2 hp i => by
  obtain ⟨ys, hq, r⟩ := h S2 e2 g2 hp
  refine ⟨fun v hv => ?_, fun hn => ⟨ys, hq, get_len r hn⟩⟩
  obtain ⟨x, hx, rx⟩ := r.get hv
  refine ⟨⟨ys, x, hq, hx⟩, fun y H' z => ?_⟩
  obtain ⟨rfl, z⟩ := z
  have e := z ys hq
  rw [hx] at e
  cases e
  exact ⟨S2, rfl, rfl, g2, .refl, rx⟩
theorem ri_tup {K : PySem.W.Frag} {S : RS} {a : Addr} {l : List Val} (h : ∀ S2 : RS, Ext S S2 → ∃ ys, SqT K S2.H a ys ∧ Rels S2 l ys) : RI S (l, none) (Itt K a) := fun S2 e2 g2 hp i => by
  obtain ⟨ys, hq, r⟩ := h S2 e2
  refine ⟨fun v hv => ?_, fun hn => ⟨ys, hq, get_len r hn⟩⟩
  obtain ⟨x, hx, rx⟩ := r.get hv
  refine ⟨⟨ys, x, hq, hx⟩, fun y H' z => ?_⟩
  obtain ⟨rfl, z⟩ := z
  have e := z ys hq
  rw [hx] at e
  cases e
  exact ⟨S2, rfl, rfl, g2, .refl, rx⟩
theorem ri_str {S : RS} {s : T} (a : asc s = true) : RI S (s.map fun c => .str [c], none) (Its (toS s)) := fun S2 e2 g2 hp i => by
  have hz : (toS s).cps.size = s.length := by simp [toS]
  refine ⟨fun v hv => ?_, fun hn => ?_⟩
  · rw [List.getElem?_map] at hv
    obtain ⟨c, hc, rfl⟩ := Option.map_eq_some_iff.mp hv
    have hi : i < s.length := (List.getElem?_eq_some_iff.mp hc).1
    refine ⟨by show i < _; rw [hz]; exact hi, fun y H' z => ?_⟩
    obtain ⟨rfl, d, hd, rfl⟩ := z
    have e : (toS s).cps[i]? = some c := by simp [toS, hc]
    rw [e] at hd
    cases hd
    refine ⟨S2, rfl, rfl, g2, .refl, rfl, ?_⟩
    refine asc_iff.mpr ⟨fun x hx => ?_, by show 1 ≤ SL; decide⟩
    rw [List.mem_singleton.mp hx]
    exact (asc_iff.mp a).1 c (List.mem_of_getElem? hc)
  · rw [List.getElem?_map, Option.map_eq_none_iff] at hn
    show _ ≤ i
    rw [hz]
    exact List.getElem?_eq_none_iff.mp hn
theorem rangeL_get : ∀ (n : Nat) (lo : Int) (i : Nat), (rangeL lo n)[i]? = if i < n then some (.int (lo + i)) else none
  | 0, lo, i => by simp [rangeL]
  | n + 1, lo, 0 => by simp [rangeL]
  | n + 1, lo, i + 1 => by
    have h := rangeL_get n (lo + 1) i
    have e : lo + 1 + (i : Int) = lo + ((i + 1 : Nat) : Int) := by omega
    rw [e] at h
    simp only [rangeL, List.getElem?_cons_succ, h, Nat.add_lt_add_iff_right]
theorem rangeD_get : ∀ (n : Nat) (lo : Int) (i : Nat), (rangeD lo n)[i]? = if i < n then some (.int (lo + (i : Int) * (-1))) else none
  | 0, lo, i => by simp [rangeD]
  | n + 1, lo, 0 => by simp [rangeD]
  | n + 1, lo, i + 1 => by
    have h := rangeD_get n (lo - 1) i
    have e : lo - 1 + (i : Int) * (-1) = lo + ((i + 1 : Nat) : Int) * (-1) := by omega
    rw [e] at h
    simp only [rangeD, List.getElem?_cons_succ, h, Nat.add_lt_add_iff_right]
theorem ri_range {S : RS} {lo : Int} {n : Nat} : RI S (rangeL lo n, none) (Itr lo n) := fun S2 e2 g2 hp i => by
  refine ⟨fun v hv => ?_, fun hn => ?_⟩
  · have hv : (rangeL lo n)[i]? = some v := hv
    rw [rangeL_get] at hv
    split at hv
    · rename_i hi
      cases hv
      refine ⟨hi, fun y H' z => ?_⟩
      obtain ⟨rfl, rfl⟩ := z
      exact ⟨S2, rfl, rfl, g2, .refl, rfl⟩
    · cases hv
  · have hn : (rangeL lo n)[i]? = none := hn
    rw [rangeL_get] at hn
    split at hn
    · cases hn
    · rename_i hi
      exact Nat.le_of_not_lt hi
theorem ri_rangeD {S : RS} {lo : Int} {n : Nat} : RI S (rangeD lo n, none) (Itc lo (-1) n) := fun S2 e2 g2 hp i => by
  refine ⟨fun v hv => ?_, fun hn => ?_⟩
  · have hv : (rangeD lo n)[i]? = some v := hv
    rw [rangeD_get] at hv
    split at hv
    · rename_i hi
      cases hv
      refine ⟨hi, fun y H' z => ?_⟩
      obtain ⟨rfl, rfl⟩ := z
      exact ⟨S2, rfl, rfl, g2, .refl, rfl⟩
    · cases hv
  · have hn : (rangeD lo n)[i]? = none := hn
    rw [rangeD_get] at hn
    split at hn
    · cases hn
    · rename_i hi
      exact Nat.le_of_not_lt hi
theorem enumL_get : ∀ (l : List Val) (k : Int) (i : Nat), (enumL k l)[i]? = (l[i]?).map fun v => .tup [.int (k + i), v]
  | [], k, i => by simp [enumL]
  | x :: r, k, 0 => by simp [enumL]
  | x :: r, k, i + 1 => by
    have h := enumL_get r (k + 1) i
    have e : k + 1 + (i : Int) = k + ((i + 1 : Nat) : Int) := by omega
    rw [e] at h
    simp only [enumL, List.getElem?_cons_succ, h]
theorem ri_enum {K : PySem.W.Frag} {S : RS} {a : Addr} {l : List Val} {pin : Pin} (h : ∀ S2 : RS, Ext S S2 → Good S2 → pinned S2.h pin = true → ∃ ys, SqL K S2.H a ys ∧ Rels S2 l ys) : RI S (enumL 0 l, pin) (Ite K a) := fun S2 e2 g2 hp i => by
  obtain ⟨ys, hq, r⟩ := h S2 e2 g2 hp
  refine ⟨fun v hv => ?_, fun hn => ?_⟩
  · have hv : (enumL 0 l)[i]? = some v := hv
    rw [enumL_get] at hv
    obtain ⟨w, hw, rfl⟩ := Option.map_eq_some_iff.mp hv
    obtain ⟨x, hx, rx⟩ := r.get hw
    refine ⟨⟨ys, x, hq, hx⟩, fun y H' z => ?_⟩
    obtain ⟨p, x', rfl, hn, rfl, z⟩ := z
    have e := z ys hq
    rw [hx] at e
    cases e
    refine ⟨S2.put p (.tup [.int (i : Nat), x]), rfl, rfl, good_put g2 hn, ext_put hn, rel_tup g2 hn ⟨_, _, rfl, ?_, _, _, rfl, rx, rfl⟩⟩
    show _ = _
    rw [Int.zero_add]
  · have hn : (enumL 0 l)[i]? = none := hn
    rw [enumL_get, Option.map_eq_none_iff] at hn
    exact ⟨ys, hq, get_len r hn⟩
theorem zipL_get : ∀ (l k : List Val) (i : Nat), (zipL l k)[i]? = match l[i]?, k[i]? with
    | some v, some w => some (.tup [v, w])
    | _, _ => none
  | [], k, i => by simp [zipL]
  | x :: r, [], i => by
    simp only [zipL, List.getElem?_nil]
    cases (x :: r)[i]? <;> rfl
  | x :: r, y :: s, 0 => by simp [zipL]
  | x :: r, y :: s, i + 1 => by
    have h := zipL_get r s i
    simp only [zipL, List.getElem?_cons_succ, h]
theorem ri_zip {K : PySem.W.Frag} {S : RS} {a b : Addr} {l k : List Val} {xs ys : List V} (h1 : FzL S a xs) (r1 : Rels S l xs) (h2 : FzL S b ys) (r2 : Rels S k ys) : RI S (zipL l k, none) (Itz K a b) := fun S2 e2 g2 hp i => by
  have q1 : SqL K S2.H a xs := (e2.fzL h1).sq (S := { S2 with K := K })
  have q2 : SqL K S2.H b ys := (e2.fzL h2).sq (S := { S2 with K := K })
  have r1 := r1.ext e2
  have r2 := r2.ext e2
  have z0 := zipL_get l k i
  refine ⟨fun v hv => ?_, fun hn => ?_⟩
  · have hv : (zipL l k)[i]? = some v := hv
    rw [z0] at hv
    cases e1 : l[i]? with
    | none => rw [e1] at hv; cases hv
    | some v1 =>
      cases e3 : k[i]? with
      | none => rw [e1, e3] at hv; cases hv
      | some v2 =>
        rw [e1, e3] at hv
        cases hv
        obtain ⟨x, hx, rx⟩ := r1.get e1
        obtain ⟨y, hy, ry⟩ := r2.get e3
        refine ⟨⟨xs, ys, x, y, q1, q2, hx, hy⟩, fun u H' z => ?_⟩
        obtain ⟨p, x', y', rfl, hn, rfl, z1, z2⟩ := z
        have f1 := z1 xs q1
        have f2 := z2 ys q2
        rw [hx] at f1
        rw [hy] at f2
        cases f1; cases f2
        exact ⟨S2.put p (.tup [x, y]), rfl, rfl, good_put g2 hn, ext_put hn, rel_tup g2 hn ⟨_, _, rfl, rx, _, _, rfl, ry, rfl⟩⟩
  · have hn : (zipL l k)[i]? = none := hn
    rw [z0] at hn
    refine ⟨xs, ys, q1, q2, ?_⟩
    cases e1 : l[i]? with
    | none => exact .inl (get_len r1 e1)
    | some v1 =>
      cases e3 : k[i]? with
      | none => exact .inr (get_len r2 e3)
      | some v2 => rw [e1, e3] at hn; cases hn
theorem ri_zipT {K : PySem.W.Frag} {S : RS} (hK : S.K = K) {a b : Addr} {l k : List Val} {xs ys : List V} (h1 : FzT S a xs) (r1 : Rels S l xs) (h2 : FzT S b ys) (r2 : Rels S k ys) : RI S (zipL l k, none) (RZ.ItzT K a b) := fun S2 e2 g2 hp i => by
  have q1 : SqT K S2.H a xs := by rw [← hK, ← e2.K]; exact (e2.fzT h1).sq
  have q2 : SqT K S2.H b ys := by rw [← hK, ← e2.K]; exact (e2.fzT h2).sq
  have r1 := r1.ext e2
  have r2 := r2.ext e2
  have z0 := zipL_get l k i
  refine ⟨fun v hv => ?_, fun hn => ?_⟩
  · have hv : (zipL l k)[i]? = some v := hv
    rw [z0] at hv
    cases e1 : l[i]? with
    | none => rw [e1] at hv; cases hv
    | some v1 =>
      cases e3 : k[i]? with
      | none => rw [e1, e3] at hv; cases hv
      | some v2 =>
        rw [e1, e3] at hv
        cases hv
        obtain ⟨x, hx, rx⟩ := r1.get e1
        obtain ⟨y, hy, ry⟩ := r2.get e3
        refine ⟨⟨xs, ys, x, y, q1, q2, hx, hy⟩, fun u H' z => ?_⟩
        obtain ⟨p, x', y', rfl, hn, rfl, z1, z2⟩ := z
        have f1 := z1 xs q1
        have f2 := z2 ys q2
        rw [hx] at f1
        rw [hy] at f2
        cases f1; cases f2
        exact ⟨S2.put p (.tup [x, y]), rfl, rfl, good_put g2 hn, ext_put hn, rel_tup g2 hn ⟨_, _, rfl, rx, _, _, rfl, ry, rfl⟩⟩
  · have hn : (zipL l k)[i]? = none := hn
    rw [z0] at hn
    refine ⟨xs, ys, q1, q2, ?_⟩
    cases e1 : l[i]? with
    | none => exact .inl (get_len r1 e1)
    | some v1 =>
      cases e3 : k[i]? with
      | none => exact .inr (get_len r2 e3)
      | some v2 => rw [e1, e3] at hn; cases hn
/-- what a walked value is: at each later time its items -/
theorem lst_stands {K : PySem.W.Frag} {S : RS} (g : Good S) {v : Val} {x : V} {l : List Val} {pin : Pin} (r : Rel S v x) (ht : isTup v = false) (e : itVal S.h v = some (l, pin)) :
    ∃ a ys, x = .ref a ∧ SqL K S.H a ys ∧ ∀ S2 : RS, Ext S S2 → Good S2 → pinned S2.h pin = true → ∃ ys, SqL K S2.H a ys ∧ Rels S2 l ys := by
  cases v with
  | list xs =>
    cases e
    obtain ⟨a, ys, rfl, f, r⟩ := r
    exact ⟨a, ys, rfl, .inl (.inl f.1), fun S2 e2 g2 _ => ⟨ys, .inl (.inl (e2.fzL f).1), r.ext e2⟩⟩
  | ref n =>
    unfold itVal at e
    simp only at e
    cases q : S.h[n]? with
    | none => rw [q] at e; cases e
    | some o =>
      rw [q] at e
      cases o with
      | list xs =>
        cases e
        obtain ⟨a, ys, rfl, ha, hH, rz⟩ := ref_lst g r q
        refine ⟨a, ys, rfl, .inl (.inl hH), fun S2 e2 g2 hp => ?_⟩
        unfold pinned at hp
        simp only at hp
        cases q2 : S2.h[n]? with
        | none => rw [q2] at hp; cases hp
        | some o2 =>
          rw [q2] at hp
          cases o2 with
          | list zs =>
            have ez := sames_eq hp
            subst ez
            obtain ⟨vs, h2, r2⟩ := g2.obj n _ a q2 (e2.at ha)
            exact ⟨vs, .inl (.inl h2), r2⟩
          | _ => cases hp
      | _ => cases e
  | _ => cases ht
section
variable {X : Cx} {tg e a b : Expr} {f ga : Loc → Heap → Res Val}
def iAny (K : PySem.W.Frag) (te : TE) : TI := fun σ H R => te σ H fun x H1 => (∃ a, x = .ref a ∧ (∃ xs, SqL K H1 a xs) ∧ R (Itl K a) H1) ∨ (∃ a, x = .ref a ∧ (∃ xs, SqT K H1 a xs) ∧ R (Itt K a) H1) ∨ ∃ z, x = .str z ∧ R (Its z) H1
theorem pi_any {te : TE} (he : PE X e te) : PI X tg e (iAny X.K te) := by
  refine ⟨fun pins s σ H R I h => ?_⟩
  refine thn (he.run pins s σ H _ I h) fun v s1 ⟨x, H1, I1, r1, q1⟩ => ?_
  rcases q1 with ⟨a, rfl, ⟨xs, hq⟩, q⟩ | ⟨a, rfl, ⟨xs, hq⟩, q⟩ | ⟨z, rfl, q⟩
  · cases r1
    obtain ⟨its, rv, p, _⟩ := I1.list hq
    exact wpAny_pyIter_list p.isList (pi_one (tk := s1.toks) I1 _ (turn_list a _) ⟨_, Heap.get?_push_size _ rfl, rfl, rfl⟩ q)
  · cases r1
    obtain ⟨its, rv, p, _⟩ := I1.tuple hq
    exact wpAny_pyIter_tuple (show s1.heap.IsTuple a its.toArray from p) (pi_one (tk := s1.toks) I1 _ (turn_tuple a _) ⟨_, Heap.get?_push_size _ rfl, rfl, rfl⟩ q)
  · obtain ⟨t, rfl⟩ := r1
    cases ha : z.cps.all (· < 128)
    · exact wpAny_pyIter_wide ha (pi_one (tk := s1.toks) I1 _ (turn_str _ z t "str_iterator" (.inr rfl)) ⟨_, Heap.get?_push_size _ rfl, rfl, rfl⟩ q)
    · exact wpAny_pyIter_ascii ha (pi_one (tk := s1.toks) I1 _ (turn_str _ z t "str_ascii_iterator" (.inl rfl)) ⟨_, Heap.get?_push_size _ rfl, rfl, rfl⟩ q)
theorem PI.wk {wi wi' : TI} (h : PI X tg e wi) (w : ∀ σ H R, wi' σ H R → wi σ H R) : PI X tg e wi' := ⟨fun pins s σ H R I q => h.run pins s σ H R I (w σ H R q)⟩
abbrev tI (K : PySem.W.Frag) (f : Loc → Heap → Res (List Val × Pin)) : TI := tG K RI f
theorem pi_valM (he : PE X e (tM X.K f)) : PI X tg e (tI X.K fun ls h => (f ls h).bind fun v h => match itVal h v with
    | some p => .ok p h
    | none => .stuck) := by
  refine PI.wk (pi_any he) fun σ H R q => ?_
  refine tM_bind (g := fun ls v h => match itVal h v with
    | some p => .ok p h
    | none => .stuck) q fun v x S ls hK g l r p => ?_
  cases e1 : itVal S.h v with
  | none => rw [e1] at p; exact p.elim
  | some lp =>
    rw [e1] at p
    obtain ⟨items, pin⟩ := lp
    cases v with
    | tup xs =>
      cases e1
      obtain ⟨a, ys, rfl, f, r⟩ := r
      refine .inr (.inl ⟨a, rfl, ⟨ys, by rw [← hK]; exact f.sq⟩, PostG.here p g (ri_tup fun S2 e2 => ⟨ys, by rw [← hK, ← e2.K]; exact (e2.fzT f).sq, r.ext e2⟩)⟩)
    | str s =>
      cases e1
      obtain ⟨rfl, a⟩ := r
      exact .inr (.inr ⟨_, rfl, PostG.here p g (ri_str a)⟩)
    | list xs =>
      obtain ⟨a, ys, rfl, hq, k⟩ := lst_stands (K := X.K) g r rfl e1
      exact .inl ⟨a, rfl, ⟨ys, hq⟩, PostG.here p g (ri_list k)⟩
    | ref n =>
      obtain ⟨a, ys, rfl, hq, k⟩ := lst_stands (K := X.K) g r rfl e1
      exact .inl ⟨a, rfl, ⟨ys, hq⟩, PostG.here p g (ri_list k)⟩
    | _ => cases e1
theorem rl_ok {i : Int} (h : -RL ≤ i ∧ i ≤ RL) : -(2 ^ 62) ≤ i ∧ i < 2 ^ 62 := by unfold RL at h; omega
variable {fs : Loc → Heap → Res (List Val)}
def rngF (fs : Loc → Heap → Res (List Val)) : Loc → Heap → Res (List Val × Pin) := fun ls h => (fs ls h).bind fun vs h => match itRange vs with
  | some l => .ok (l, none) h
  | none => .stuck
theorem ints1 {S : RS} {vs : List Val} {xs : List V} {j : Int} (r : Rels S vs xs) (e : vs = [.int j]) : xs = [.int j] := by
  subst e
  obtain ⟨x, t, rfl, h, e⟩ := r
  cases h; cases e; rfl
theorem pi_rng {p pos : Pos} {es : List Expr} (hg : Gl X "range") (hm : X.mg "range" = none) (hp : plainsE es = true) (h1 : 1 ≤ es.length) (h3 : es.length ≤ 3) (ha : PA X es (tAs X.K fs)) (hl : ∀ ls h h' vs, fs ls h = .ok vs h' → vs.length = es.length) :
    PI X tg (.Call (.Name "range" p) es [] pos) (tI X.K (rngF fs)) := by
  match es, hp, h1, h3, ha, hl with
  | [a], hp, _, _, ha, hl =>
    have hp1 := (Bool.and_eq_true_iff.mp (show (plainE a && plainsE []) = true from hp)).1
    refine PI.wk (pi_range1 hg hm ha (star_plain hp1)) fun σ H R q => ?_
    obtain ⟨S0, ls, hK, hH, g0, l0, p0⟩ := q
    subst hH
    refine ⟨S0, ls, hK, rfl, g0, l0, PostG.bind (g := fun vs h => match itRange vs with
      | some l => .ok (l, none) h
      | none => .stuck) p0 fun vs xs S e1 g e2 r p => ?_⟩
    have hlen := hl _ _ _ _ e1
    match vs, hlen, r, p with
    | [v], _, r, p =>
      cases v with
      | int j =>
        obtain ⟨x, t, rfl, hx, et⟩ := r
        cases et; cases hx
        by_cases hc : -RL ≤ j ∧ j ≤ RL
        · have p : PostG RI S (if -RL ≤ j ∧ j ≤ RL then .ok (rangeL 0 j.toNat, none) S.h else .stuck) (fun J H' => R J H') := by
            have ei : itRange [.int j] = if -RL ≤ j ∧ j ≤ RL then some (rangeL 0 j.toNat) else none := rfl
            rw [ei, if_pos hc] at p
            rw [if_pos hc]; exact p
          rw [if_pos hc] at p
          exact ⟨j, rfl, (rl_ok hc).1, (rl_ok hc).2, PostG.here p g ri_range⟩
        · have ei : itRange [.int j] = none := if_neg hc
          rw [ei] at p
          exact p.elim
      | _ => exact p.elim
  | [a, b], hp, _, _, ha, hl =>
    have hp' := Bool.and_eq_true_iff.mp (show (plainE a && plainsE [b]) = true from hp)
    have hp2 := (Bool.and_eq_true_iff.mp (show (plainE b && plainsE []) = true from hp'.2)).1
    refine PI.wk (pi_range2 hg hm ha (by rw [star_plain hp'.1, star_plain hp2]; rfl) (by rw [star_plain hp2]; rfl)) fun σ H R q => ?_
    obtain ⟨S0, ls, hK, hH, g0, l0, p0⟩ := q
    subst hH
    refine ⟨S0, ls, hK, rfl, g0, l0, PostG.bind (g := fun vs h => match itRange vs with
      | some l => .ok (l, none) h
      | none => .stuck) p0 fun vs xs S e1 g e2 r p => ?_⟩
    have hlen := hl _ _ _ _ e1
    match vs, hlen, r, p with
    | [v, w], _, r, p =>
      cases v with
      | int i =>
        cases w with
        | int j =>
          obtain ⟨x, t, rfl, hx, y, t', rfl, hy, et⟩ := r
          cases et; cases hx; cases hy
          have ei : itRange [.int i, .int j] = if -RL ≤ i ∧ i ≤ RL ∧ -RL ≤ j ∧ j ≤ RL then some (rangeL i (j - i).toNat) else none := rfl
          by_cases hc : -RL ≤ i ∧ i ≤ RL ∧ -RL ≤ j ∧ j ≤ RL
          · rw [ei, if_pos hc] at p
            exact ⟨i, j, rfl, ⟨(rl_ok ⟨hc.1, hc.2.1⟩).1, (rl_ok ⟨hc.1, hc.2.1⟩).2, (rl_ok hc.2.2).1, (rl_ok hc.2.2).2⟩, PostG.here p g ri_range⟩
          · rw [ei, if_neg hc] at p
            exact p.elim
        | _ => exact p.elim
      | _ => exact p.elim
  | [a, b, c], hp, _, _, ha, hl =>
    have hp' := Bool.and_eq_true_iff.mp (show (plainE a && plainsE [b, c]) = true from hp)
    refine PI.wk (pi_range3 hg hm ha (star_plain hp'.1) (backs_plain hp'.2)) fun σ H R q => ?_
    obtain ⟨S0, ls, hK, hH, g0, l0, p0⟩ := q
    subst hH
    refine ⟨S0, ls, hK, rfl, g0, l0, PostG.bind (g := fun vs h => match itRange vs with
      | some l => .ok (l, none) h
      | none => .stuck) p0 fun vs xs S e1 g e2 r p => ?_⟩
    have hlen := hl _ _ _ _ e1
    match vs, hlen, r, p with
    | [v, w, u], _, r, p =>
      cases v with
      | int i =>
        cases w with
        | int j =>
          cases u with
          | int k =>
            obtain ⟨x, t, rfl, hx, y, t', rfl, hy, z, t'', rfl, hz, et⟩ := r
            cases et; cases hx; cases hy; cases hz
            have ei : itRange [.int i, .int j, .int k] = if -RL ≤ i ∧ i ≤ RL ∧ -RL ≤ j ∧ j ≤ RL ∧ k = -1 then some (rangeD i (i - j).toNat) else none := rfl
            by_cases hc : -RL ≤ i ∧ i ≤ RL ∧ -RL ≤ j ∧ j ≤ RL ∧ k = -1
            · rw [ei, if_pos hc] at p
              obtain ⟨c1, c2, c3, c4, rfl⟩ := hc
              exact ⟨i, j, -1, (i - j).toNat, rfl, .neg (rl_ok ⟨c1, c2⟩).1 (rl_ok ⟨c1, c2⟩).2 (rl_ok ⟨c3, c4⟩).1 (rl_ok ⟨c3, c4⟩).2, PostG.here p g ri_rangeD⟩
            · rw [ei, if_neg hc] at p
              exact p.elim
          | _ => exact p.elim
        | _ => exact p.elim
      | _ => exact p.elim
  | _ :: _ :: _ :: _ :: _, _, _, h3, _, _ => exact absurd h3 (by simp)
def isTupE : Expr → Bool
  | .Tuple .. => true
  | _ => false
theorem pi_enumM {p pos : Pos} (hg : Gl X "enumerate") (hm : X.mg "enumerate" = none) (ht : isTupE tg = true) (hp : plainE e = true) (he : PA X [e] (tAs X.K fs)) (hf : ∀ ls h, fs ls h = (f ls h).bind fun v h => .ok [v] h) :
    PI X tg (.Call (.Name "enumerate" p) [e] [] pos) (tI X.K fun ls h => (f ls h).bind fun v h => match isTup v, itVal h v with
    | false, some (l, pin) => .ok (enumL 0 l, pin) h
    | _, _ => .stuck) := by
  cases tg with
  | Tuple elts kk tpos =>
    refine PI.wk (pi_enum hg hm he (star_plain hp)) fun σ H R q => ?_
    obtain ⟨S0, ls, hK, hH, g0, l0, p0⟩ := q
    subst hH
    refine ⟨S0, ls, hK, rfl, g0, l0, ?_⟩
    rw [hf]
    have p0 : PostG RI S0 (((f ls S0.h).bind fun v h => .ok [v] h).bind fun vs h => match vs with
      | [v] => (match isTup v, itVal h v with
        | false, some (l, pin) => .ok (enumL 0 l, pin) h
        | _, _ => .stuck)
      | _ => .stuck) (fun J H' => R J H') := by
      cases ef : f ls S0.h with
      | ok v h => simp only [ef, bind_ok] at p0 ⊢; exact p0
      | exc _ _ => simp only [ef, bind_exc] at p0 ⊢; exact p0
      | stuck => simp only [ef, bind_stuck] at p0 ⊢; exact p0
    refine PostG.bind p0 fun vs xs S e1 g e2 r p => ?_
    match vs, r, p with
    | [v], r, p =>
      obtain ⟨x, t, rfl, rx, et⟩ := r
      cases et
      have p : PostG RI S (match isTup v, itVal S.h v with
        | false, some (l, pin) => .ok (enumL 0 l, pin) S.h
        | _, _ => .stuck) (fun J H' => R J H') := p
      cases e3 : isTup v with
      | true => rw [e3] at p; exact p.elim
      | false =>
        cases e4 : itVal S.h v with
        | none => rw [e3, e4] at p; exact p.elim
        | some lp =>
          obtain ⟨items, pin⟩ := lp
          rw [e3, e4] at p
          obtain ⟨a, ys, rfl, hq, k⟩ := lst_stands (K := X.K) g rx e3 e4
          exact ⟨a, ys, rfl, hq, PostG.here p g (ri_enum k)⟩
    | [], _, p => exact p.elim
    | _ :: _ :: _, _, p => exact p.elim
  | _ => cases ht
theorem pi_zipM {p pos : Pos} (hg : Gl X "zip") (hm : X.mg "zip" = none) (ht : isTupE tg = true) (hp : plainE a = true) (hp2 : plainE b = true) (he : PA X [a, b] (tAs X.K fs)) (hf : ∀ ls h, fs ls h = (f ls h).bind fun v h => (ga ls h).bind fun w h => .ok [v, w] h) :
    PI X tg (.Call (.Name "zip" p) [a, b] [] pos) (tI X.K fun ls h => (f ls h).bind fun v h => (ga ls h).bind fun w h => zipR v w h) := by
  cases tg with
  | Tuple elts kk tpos =>
    refine PI.wk (RZ.pi_zipA hg hm he (star_plain hp) (backs_plain (by show (plainE b && plainsE []) = true; rw [hp2]; rfl))) fun σ H R q => ?_
    obtain ⟨S0, ls, hK, hH, g0, l0, p0⟩ := q
    subst hH
    refine ⟨S0, ls, hK, rfl, g0, l0, ?_⟩
    rw [hf]
    have p0 : PostG RI S0 (((f ls S0.h).bind fun v h => (ga ls h).bind fun w h => .ok [v, w] h).bind fun vs h => match vs with
      | [v, w] => zipR v w h
      | _ => .stuck) (fun J H' => R J H') := by
      cases ef : f ls S0.h with
      | ok v h =>
        simp only [ef, bind_ok] at p0 ⊢
        cases eg : ga ls h with
        | ok w h => simp only [eg, bind_ok] at p0 ⊢; exact p0
        | exc _ _ => simp only [eg, bind_exc] at p0 ⊢; exact p0
        | stuck => simp only [eg, bind_stuck] at p0 ⊢; exact p0
      | exc _ _ => simp only [ef, bind_exc] at p0 ⊢; exact p0
      | stuck => simp only [ef, bind_stuck] at p0 ⊢; exact p0
    refine PostG.bind p0 fun vs xs S e1 g e2 r p => ?_
    have hK2 : S.K = X.K := e2.K.trans hK
    match vs, r, p with
    | [], _, p => exact p.elim
    | [_], _, p => exact p.elim
    | _ :: _ :: _ :: _, _, p => exact p.elim
    | [v, w], r, p =>
      obtain ⟨x, t, rfl, rx, y, t', rfl, ry, et⟩ := r
      cases et
      have p : PostG RI S (zipR v w S.h) (fun J H' => R J H') := p
      cases v with
      | tup l =>
        cases w with
        | tup k =>
          obtain ⟨a1, ys, rfl, f1, r1⟩ := rx
          obtain ⟨b1, zs, rfl, f2, r2⟩ := ry
          exact ⟨a1, b1, ys, zs, rfl, .inr ⟨by rw [← hK2]; exact f1.sq, by rw [← hK2]; exact f2.sq, PostG.here p g (ri_zipT hK2 f1 r1 f2 r2)⟩⟩
        | _ => exact p.elim
      | list l =>
        cases w with
        | list k =>
          obtain ⟨a1, ys, rfl, f1, r1⟩ := rx
          obtain ⟨b1, zs, rfl, f2, r2⟩ := ry
          exact ⟨a1, b1, ys, zs, rfl, .inl ⟨.inl (.inl f1.1), .inl (.inl f2.1), PostG.here p g (ri_zip f1 r1 f2 r2)⟩⟩
        | _ => exact p.elim
      | _ => exact p.elim
  | _ => cases ht
end
end M
namespace M
open PySem PySem.Spec PyProof.Rows L2
/-! ### targets -/
theorem wipe_get {σ : L2.St} {i : Nat} : ∀ {is : List Nat}, i ∉ is → (wipe σ is)[i]? = σ[i]?
  | [], _ => rfl
  | v :: vs, h => by
    unfold wipe
    rw [List.getElem?_set_ne (fun e => h (by rw [e]; exact List.mem_cons_self ..)), wipe_get (fun m => h (List.mem_cons_of_mem _ m))]
theorem wipe_at {σ : L2.St} {i : Nat} : ∀ {is : List Nat}, i ∈ is → (wipe σ is)[i]? = if i < σ.length then some none else none
  | v :: vs, h => by
    unfold wipe
    by_cases e : v = i
    · subst e
      rw [List.getElem?_set_self']
      by_cases hl : v < σ.length
      · rw [if_pos hl, List.getElem?_eq_getElem (by rw [wipe_length]; exact hl)]; rfl
      · rw [if_neg hl, List.getElem?_eq_none (by rw [wipe_length]; exact Nat.le_of_not_lt hl)]; rfl
    · rw [List.getElem?_set_ne e]
      exact wipe_at ((List.mem_cons.mp h).resolve_left (fun z => e z.symm))
theorem wipe_set {σ : L2.St} {i : Nat} {x : Option V} {is : List Nat} (h : i ∈ is) : wipe (σ.set i x) is = wipe σ is := by
  apply List.ext_getElem?
  intro j
  by_cases hj : j ∈ is
  · rw [wipe_at hj, wipe_at hj, List.length_set]
  · rw [wipe_get hj, wipe_get hj, List.getElem?_set_ne (fun e => hj (by rw [← e]; exact h))]
def Tg.slots : Tg → List Nat
  | .name i => [i]
  | .tup is => is
/-- what a store reaches -/
def GOk (K : PySem.W.Frag) (t : Tg) (g : TG) : Prop := ∀ (S : RS) (v : Val) (x : V) (ls ls' : Loc) (σ : L2.St) (Q : L2.St → Hp → Prop), S.K = K → Good S → LRel S ls σ → Rel S v x → setTg t v ls = some ls' →
  (∀ σ', LRel S ls' σ' → (∀ is : List Nat, (∀ i ∈ t.slots, i ∈ is) → wipe σ' is = wipe σ is) → Q σ' S.H) → g x σ S.H Q
theorem gok_name {K : PySem.W.Frag} {i : Nat} : GOk K (.name i) (gName i) := fun S v x ls ls' σ Q hK g l r e k => by
  cases e
  exact k _ (l.set r i) fun is h => wipe_set (h i (List.mem_singleton.mpr rfl))
def GsOk (is : List Nat) (g : TGs) : Prop := ∀ (S : RS) (vs : List Val) (xs : List V) (ls ls' : Loc) (σ : L2.St) (Q : L2.St → Hp → Prop), Good S → LRel S ls σ → Rels S vs xs → setsTg is vs ls = some ls' →
  (∀ σ', LRel S ls' σ' → (∀ js : List Nat, (∀ i ∈ is, i ∈ js) → wipe σ' js = wipe σ js) → Q σ' S.H) → g xs σ S.H Q
theorem gsok_nil : GsOk [] gNil := fun S vs xs ls ls' σ Q g l r e k => by
  cases vs with
  | nil => cases e; cases r; exact ⟨rfl, k σ l fun _ _ => rfl⟩
  | cons _ _ => cases e
theorem gsok_cons {i : Nat} {is : List Nat} {u : TGs} (h : GsOk is u) : GsOk (i :: is) (gCons (gName i) u) := fun S vs xs ls ls' σ Q g l r e k => by
  cases vs with
  | nil => cases e
  | cons v vs =>
    obtain ⟨x, t, rfl, h1, h2⟩ := r
    refine ⟨x, t, rfl, h S vs t _ ls' _ Q g (l.set h1 i) h2 e fun σ' l' hw => k σ' l' fun js hj => ?_⟩
    rw [hw js fun m hm => hj m (List.mem_cons_of_mem _ hm), wipe_set (hj i (List.mem_cons_self ..))]
theorem sets_len : ∀ {is : List Nat} {vs : List Val} {ls ls' : Loc}, setsTg is vs ls = some ls' → vs.length = is.length
  | [], [], _, _, _ => rfl
  | [], _ :: _, _, _, h => by cases h
  | _ :: _, [], _, _, h => by cases h
  | _ :: is, _ :: vs, ls, ls', h => congrArg Nat.succ (sets_len (is := is) (vs := vs) h)
theorem gok_tup {K : PySem.W.Frag} {is : List Nat} {u : TGs} (h : GsOk is u) : GOk K (.tup is) (gTup K is.length u) := fun S v x ls ls' σ Q hK g l r e k => by
  cases v with
  | tup vs =>
    obtain ⟨a, xs, rfl, f, rs⟩ := r
    refine ⟨a, xs, rfl, by rw [← hK]; exact f.sq, ?_, h S vs xs ls ls' σ Q g l rs e k⟩
    rw [← rs.len]; exact sets_len e
  | _ => cases e
section
variable {X : Cx} {c : Ck} {k : Nat} {cl : CallFn}
def tgNames (c : Ck) : List Nat → List Expr → Bool
  | [], [] => true
  | i :: is, .Name x _ :: es => (match c.N[i]? with
    | some y => y == x
    | none => false) && inL x c.st && tgNames c is es
  | _, _ => false
def okTg (c : Ck) : Tg → Expr → Bool
  | .name i, .Name x _ => (match c.N[i]? with
    | some y => y == x
    | none => false) && inL x c.st
  | .tup is, .Tuple es _ _ => tgNames c is es
  | _, _ => false
theorem nm_at {i : Nat} {x : Str} (h : (match c.N[i]? with
    | some y => y == x
    | none => false) = true) : c.N[i]? = some x := by
  cases e : c.N[i]? with
  | none => rw [e] at h; cases h
  | some y => rw [e] at h; rw [eq_of_beq h]
theorem pg_nameM (F : CF X c k cl) {i : Nat} {x : Str} {pos : Pos} (h : (match c.N[i]? with
    | some y => y == x
    | none => false) = true) (hs : inL x c.st = true) : PG X (.Name x pos) (gName i) := by
  obtain ⟨h1, h2⟩ := F.st x (inL_ok hs)
  exact pg_name (by rw [F.hN]; exact F.nd) (by rw [F.hN]; exact nm_at h) h1 h2
theorem names_each {env : Env} : ∀ {is : List Nat} {es : List Expr}, tgNames c is es = true → (assignEach es env).length = is.length ∧ (assignEach es env).findIdx? (·.1) = none
  | [], [], _ => ⟨rfl, rfl⟩
  | [], _ :: _, h => by cases h
  | _ :: _, [], h => by cases h
  | i :: is, e :: es, h => by
    cases e with
    | Name x p =>
      have h' := (Bool.and_eq_true_iff.mp (show ((_ && inL x c.st) && tgNames c is es) = true from h)).2
      obtain ⟨h1, h2⟩ := names_each (env := env) h'
      refine ⟨?_, ?_⟩
      · show (assignEach es env).length + 1 = is.length + 1
        rw [h1]
      · have e1 : assignEach (.Name x p :: es) env = (false, assign (.Name x p) env) :: assignEach es env := rfl
        rw [e1, List.findIdx?_cons, h2]
        rfl
    | _ => cases h
theorem pgs_names (F : CF X c k cl) : ∀ {is : List Nat} {es : List Expr}, tgNames c is es = true → ∃ u, PGs X es u ∧ GsOk is u
  | [], [], _ => ⟨_, pgs_nil, gsok_nil⟩
  | [], _ :: _, h => by cases h
  | _ :: _, [], h => by cases h
  | i :: is, e :: es, h => by
    cases e with
    | Name x p =>
      have h' := Bool.and_eq_true_iff.mp (show ((_ && inL x c.st) && tgNames c is es) = true from h)
      have h'' := Bool.and_eq_true_iff.mp h'.1
      obtain ⟨u, h1, h2⟩ := pgs_names F h'.2
      exact ⟨_, pgs_cons (pg_nameM F h''.1 h''.2) h1, gsok_cons h2⟩
    | _ => cases h
theorem pg_ok (F : CF X c k cl) {t : Tg} {e : Expr} (h : okTg c t e = true) : ∃ g, PG X e g ∧ GOk X.K t g := by
  cases t with
  | name i =>
    cases e with
    | Name x p =>
      have h' := Bool.and_eq_true_iff.mp (show (_ && inL x c.st) = true from h)
      exact ⟨_, pg_nameM F h'.1 h'.2, gok_name⟩
    | _ => cases h
  | tup is =>
    cases e with
    | Tuple es n p =>
      have h : tgNames c is es = true := h
      obtain ⟨u, h1, h2⟩ := pgs_names F h
      obtain ⟨e1, e2⟩ := names_each (env := X.env) h
      exact ⟨_, pg_tup F.calm h1 e1 e2, gok_tup h2⟩
    | _ => cases h
end
/-! ### comprehensions -/
theorem killL_some : ∀ {is : List Nat} {ls : Loc} {i : Nat} {v : Val}, (killL is ls)[i]? = some (some v) → ls[i]? = some (some v) ∧ i ∉ is
  | [], _, _, _, h => ⟨h, by simp⟩
  | j :: is, ls, i, v, h => by
    obtain ⟨h1, h2⟩ := killL_some (is := is) (ls := ls.set j none) h
    by_cases e : j = i
    · subst e
      by_cases hl : j < ls.length
      · rw [List.getElem?_set_self hl] at h1; cases h1
      · rw [List.getElem?_eq_none (by simpa using Nat.le_of_not_lt hl)] at h1; cases h1
    · rw [List.getElem?_set_ne e] at h1
      exact ⟨h1, fun m => (List.mem_cons.mp m).elim (fun z => e z.symm) h2⟩
theorem killL_len : ∀ (is : List Nat) (ls : Loc), (killL is ls).length = ls.length
  | [], _ => rfl
  | j :: is, ls => by
    show (killL is (ls.set j none)).length = _
    rw [killL_len is, List.length_set]
theorem LRel.wiped {S : RS} {ls : Loc} {σ : L2.St} (l : LRel S ls σ) (is : List Nat) : LRel S (killL is ls) (wipe σ is) :=
  ⟨by rw [killL_len, wipe_length]; exact l.len, fun i v h => by
    obtain ⟨h1, h2⟩ := killL_some h
    rw [wipe_get h2]
    exact l.at_ i v h1⟩
mutual
/-- an accumulator of one's own changes nothing for what does not see it -/
theorem Rel.hop {S S0 : RS} (hK : S0.K = S.K) (hH : ∀ a o, ¬ Live S a → S.H a = some o → S0.H a = some o) (hl : ∀ a, ¬ Live S a → (∃ o, S.H a = some o) → ¬ Live S0 a) (hr : ∀ (i : Nat) a, S.r[i]? = some a → S0.r[i]? = some a) : ∀ {v : Val} {x : V}, Rel S v x → Rel S0 v x
  | .none, _, h => h
  | .bool _, _, h => h
  | .int _, _, h => h
  | .str _, _, h => h
  | .tup xs, x, h => by
    obtain ⟨a, vs, h1, h2, h3⟩ := h
    refine ⟨a, vs, h1, ?_, Rels.hop hK hH hl hr h3⟩
    rcases h2 with ⟨h2 | ⟨o, h2⟩, n2⟩ | h2
    · exact .inl ⟨.inl (hH a _ n2 h2), hl a n2 ⟨_, h2⟩⟩
    · exact .inl ⟨.inr ⟨o, hH a _ n2 h2⟩, hl a n2 ⟨_, h2⟩⟩
    · exact .inr (by rw [hK]; exact h2)
  | .list xs, x, h => by
    obtain ⟨a, vs, h1, ⟨h2, n2⟩, h3⟩ := h
    exact ⟨a, vs, h1, ⟨hH a _ n2 h2, hl a n2 ⟨_, h2⟩⟩, Rels.hop hK hH hl hr h3⟩
  | .dict ks vs, _, h => by
    obtain ⟨a, kvs, h1, ⟨h2, n2⟩, h3, h4⟩ := h
    exact ⟨a, kvs, h1, ⟨hH a _ n2 h2, hl a n2 ⟨_, h2⟩⟩, Rels.hop hK hH hl hr h3, Rels.hop hK hH hl hr h4⟩
  | .obj _ _ _, _, h => h.elim
  | .ref m, x, h => by
    obtain ⟨a, h1, h2⟩ := h
    exact ⟨a, hr m a h1, h2⟩
  | .fn _, _, h => h.elim
  | .cls _, _, h => h.elim
  | .ty _, _, h => h.elim
  | .scr xs, x, h => by
    obtain ⟨a, vs, h1, h2, h3⟩ := h
    refine ⟨a, vs, h1, ?_, Rels.hop hK hH hl hr h3⟩
    rcases h2 with ⟨o, h2, n2⟩ | h2
    · exact .inl ⟨o, hH a _ n2 h2, hl a n2 ⟨_, h2⟩⟩
    · exact .inr (by rw [hK]; exact h2)
theorem Rels.hop {S S0 : RS} (hK : S0.K = S.K) (hH : ∀ a o, ¬ Live S a → S.H a = some o → S0.H a = some o) (hl : ∀ a, ¬ Live S a → (∃ o, S.H a = some o) → ¬ Live S0 a) (hr : ∀ (i : Nat) a, S.r[i]? = some a → S0.r[i]? = some a) : ∀ {vs : List Val} {xs : List V}, Rels S vs xs → Rels S0 vs xs
  | [], _, h => h
  | v :: r, xs, h => by
    obtain ⟨x, t, h1, h2, h3⟩ := h
    exact ⟨x, t, h1, Rel.hop hK hH hl hr h2, Rels.hop hK hH hl hr h3⟩
end
/-- the accumulator's state -/
def RS.acc (S : RS) (D : Addr) (o : HO) : RS := { S with H := upd S.H D o, own := D :: S.own }
def RS.acc2 (S : RS) (D : Addr) (o : HO) : RS := { S with H := upd S.H D o }
theorem ORel.hop {S S0 : RS} (hK : S0.K = S.K) (hH : ∀ a o, ¬ Live S a → S.H a = some o → S0.H a = some o) (hl : ∀ a, ¬ Live S a → (∃ o, S.H a = some o) → ¬ Live S0 a) (hr : ∀ (i : Nat) a, S.r[i]? = some a → S0.r[i]? = some a) {a : Addr} {o : Obj} (ha : ∀ u, S.H a = some u → S0.H a = some u) (h : ORel S a o) : ORel S0 a o := by
  cases o with
  | dead => obtain ⟨u, h⟩ := h; exact ⟨u, ha u h⟩
  | list xs => obtain ⟨vs, h1, h2⟩ := h; exact ⟨vs, ha _ h1, Rels.hop hK hH hl hr h2⟩
  | dict _ _ => exact h
  | inst _ _ _ => exact h
section
variable {S : RS} {D : Addr}
theorem acc_H (n : S.H D = none) {o : HO} : ∀ a u, ¬ Live S a → S.H a = some u → (S.acc D o).H a = some u := fun a u _ e => by
  show upd S.H D o a = _
  rw [upd_ne (ne_of_none e n)]; exact e
theorem acc_l (n : S.H D = none) {o : HO} : ∀ a, ¬ Live S a → (∃ u, S.H a = some u) → ¬ Live (S.acc D o) a := fun a nl ⟨u, e⟩ l => by
  rcases l with l | l
  · exact nl (.inl l)
  · rcases List.mem_cons.mp (show a ∈ D :: S.own from l) with z | z
    · rw [z, n] at e; cases e
    · exact nl (.inr z)
theorem rel_acc (n : S.H D = none) {o : HO} {v : Val} {x : V} (r : Rel S v x) : Rel (S.acc D o) v x := Rel.hop (S := S) (S0 := S.acc D o) rfl (acc_H n) (acc_l n) (fun _ _ h => h) r
theorem lrel_acc (n : S.H D = none) {o : HO} {ls : Loc} {σ : L2.St} (l : LRel S ls σ) : LRel (S.acc D o) ls σ := ⟨l.len, fun i v h => let ⟨x, h1, h2⟩ := l.at_ i v h; ⟨x, h1, rel_acc n h2⟩⟩
theorem good_acc (g : Good S) (n : S.H D = none) {o : HO} : Good (S.acc D o) := by
  refine ⟨g.len, g.nd, fun i u a h1 h2 => ?_, fun a m => ?_⟩
  · exact ORel.hop (S := S) (S0 := S.acc D o) rfl (acc_H n) (acc_l n) (fun _ _ h => h) (fun w e => by
      show upd S.H D o a = _
      rw [upd_ne (ne_of_none e n)]; exact e) (g.obj i u a h1 h2)
  · rcases List.mem_cons.mp (show a ∈ D :: S.own from m) with z | z
    · subst z
      refine ⟨⟨o, upd_same⟩, fun hm => ?_⟩
      obtain ⟨i, hi⟩ := List.getElem?_of_mem (show a ∈ S.r from hm)
      obtain ⟨u, e⟩ := g.hso hi
      rw [n] at e; cases e
    · obtain ⟨⟨u, e⟩, q⟩ := g.ow a z
      exact ⟨⟨u, by show upd S.H D o a = _; rw [upd_ne (ne_of_none e n)]; exact e⟩, q⟩
/-- the accumulator grows -/
theorem acc2_H (hD : D ∈ S.own) {o : HO} : ∀ a u, ¬ Live S a → S.H a = some u → (S.acc2 D o).H a = some u := fun a u nl e => by
  show upd S.H D o a = _
  rw [upd_ne (fun z => nl (.inr (by rw [z]; exact hD)))]; exact e
theorem rels_acc2 (hD : D ∈ S.own) {o : HO} {v : List Val} {x : List V} (r : Rels S v x) : Rels (S.acc2 D o) v x := Rels.hop (S := S) (S0 := S.acc2 D o) rfl (acc2_H hD) (fun _ nl _ => nl) (fun _ _ h => h) r
theorem lrel_acc2 (hD : D ∈ S.own) {o : HO} {ls : Loc} {σ : L2.St} (l : LRel S ls σ) : LRel (S.acc2 D o) ls σ := ⟨l.len, fun i v h => let ⟨x, h1, h2⟩ := l.at_ i v h; ⟨x, h1, Rel.hop (S := S) (S0 := S.acc2 D o) rfl (acc2_H hD) (fun _ nl _ => nl) (fun _ _ h => h) h2⟩⟩
theorem good_acc2 (g : Good S) (hD : D ∈ S.own) {o : HO} : Good (S.acc2 D o) := by
  refine ⟨g.len, g.nd, fun i u a h1 h2 => ?_, fun a m => ?_⟩
  · refine ORel.hop (S := S) (S0 := S.acc2 D o) rfl (acc2_H hD) (fun _ nl _ => nl) (fun _ _ h => h) (fun w e => ?_) (g.obj i u a h1 h2)
    show upd S.H D o a = _
    rw [upd_ne (fun z => (g.ow D hD).2 (by rw [← z]; exact List.mem_of_getElem? h2))]; exact e
  · obtain ⟨⟨u, e⟩, q⟩ := g.ow a m
    refine ⟨?_, q⟩
    by_cases z : a = D
    · subst z; exact ⟨o, upd_same⟩
    · exact ⟨u, by show upd S.H D o a = _; rw [upd_ne z]; exact e⟩
end
end M
namespace M
open PySem PySem.Spec PyProof.Rows L2
/-- a rest that is asked of another state -/
theorem PostG.bind2 {A B C D : Type} {R : RS → A → B → Prop} {R' : RS → C → D → Prop} {S0 S : RS} {r : Res A} {g : A → Heap → Res C} {Q : D → Hp → Prop} {Z : B → Hp → Prop} (p : PostG R' S0 (r.bind g) Q)
    (k : ∀ a b S1, Good S1 → Ext S S1 → R S1 a b → PostG R' S0 (g a S1.h) Q → Z b S1.H) : PostG R S r Z := by
  cases r with
  | ok a h =>
    intro S1 b h1 g1 e1 r1
    subst h1
    exact k a b S1 g1 e1 r1 p
  | exc _ _ => exact p
  | stuck => exact p
theorem ext_acc {S : RS} {D : Addr} {o : HO} (n : S.H D = none) : Ext S (S.acc D o) :=
  ⟨rfl, ⟨[], by simp [RS.acc]⟩, fun a u e nl => ⟨acc_H n a u nl e, acc_l n a nl ⟨u, e⟩⟩, fun _ h => List.mem_cons_of_mem _ h, fun a u _ e => by
    show upd S.H D o a = _
    rw [upd_ne (ne_of_none e n)]; exact e⟩
theorem ext_acc2 {S S' : RS} {D : Addr} {o : HO} (n : S.H D = none) (e : Ext S S') (hD : D ∈ S'.own) : Ext S (S'.acc2 D o) :=
  ⟨e.K, e.pre, fun a u h nl => let ⟨h1, n1⟩ := e.keep a u h nl; ⟨acc2_H hD a u n1 h1, n1⟩, e.sub, fun a u m h => by
    show upd S'.H D o a = _
    rw [upd_ne (ne_of_none h n)]; exact e.kow a u m h⟩
/-- the list that was made is a value -/
theorem end_frz {S S' : RS} {D : Addr} {vs : List Val} {ys : List V} {Q : VK} (g : Good S) (n : S.H D = none) (g' : Good S') (e : Ext S S') (hD : D ∈ S'.own) (hH : S'.H D = some (.lst ys)) (r : Rels S' vs ys) (p : Post S (.ok (.list vs) S'.h) Q) : Q (.ref D) S'.H := by
  have hl : ∀ a, ¬ Live S' a → (∃ o, S'.H a = some o) → ¬ Live { S' with own := S.own } a := fun a nl _ l => nl (l.elim .inl fun m => .inr (e.sub a m))
  have nD : ¬ Live { S' with own := S.own } D := fun l => by
    rcases l with ⟨i, o, h1, _, _⟩ | m
    · exact (g'.ow D hD).2 (List.mem_of_getElem? h1)
    · obtain ⟨⟨u, q⟩, _⟩ := g.ow D m
      rw [n] at q; cases q
  refine p { S' with own := S.own } (.ref D) rfl ⟨g'.len, g'.nd, fun i o a h1 h2 => ?_, fun a m => ⟨?_, (g'.ow a (e.sub a m)).2⟩⟩ ⟨e.K, e.pre, fun a o h nl => ?_, fun _ h => h, e.kow⟩ ⟨D, ys, rfl, ⟨hH, nD⟩, ?_⟩
  · exact ORel.hop (S := S') (S0 := { S' with own := S.own }) rfl (fun _ _ _ h => h) hl (fun _ _ h => h) (fun _ h => h) (g'.obj i o a h1 h2)
  · obtain ⟨⟨u, q⟩, _⟩ := g.ow a m
    exact ⟨u, e.kow a u m q⟩
  · obtain ⟨h1, n1⟩ := e.keep a o h nl
    exact ⟨h1, hl a n1 ⟨o, h1⟩⟩
  · exact Rels.hop (S := S') (S0 := { S' with own := S.own }) rfl (fun _ _ _ h => h) hl (fun _ _ h => h) r
/-- .. or a mutable object -/
theorem end_mut {S S' : RS} {D : Addr} {vs : List Val} {ys : List V} {Q : VK} (g : Good S) (n : S.H D = none) (g' : Good S') (e : Ext S S') (hD : D ∈ S'.own) (hH : S'.H D = some (.lst ys)) (r : Rels S' vs ys)
    (p : Post S (.ok (.ref S'.h.length) (S'.h ++ [.list vs])) Q) : Q (.ref D) S'.H := by
  let T : RS := { S' with r := S'.r ++ [D], h := S'.h ++ [.list vs], own := S.own }
  have lv : ∀ a, Live T a → Live S' a ∨ a = D := fun a l => by
    rcases l with ⟨i, o, h1, h2, h3⟩ | m
    · have h1' : (S'.r ++ [D])[i]? = some a := h1
      have h2' : (S'.h ++ [Obj.list vs])[i]? = some o := h2
      by_cases hi : i < S'.r.length
      · rw [List.getElem?_append_left hi] at h1'
        rw [List.getElem?_append_left (by rw [← g'.len]; exact hi)] at h2'
        exact .inl (.inl ⟨i, o, h1', h2', h3⟩)
      · rw [List.getElem?_append_right (Nat.le_of_not_lt hi)] at h1'
        cases hj : i - S'.r.length with
        | zero => rw [hj] at h1'; simp at h1'; exact .inr h1'.symm
        | succ n => rw [hj] at h1'; simp at h1'
    · exact .inl (.inr (e.sub a m))
  have hl : ∀ a, ¬ Live S' a → (∃ o, S'.H a = some o) → ¬ Live T a := fun a nl _ l => (lv a l).elim nl fun z => nl (.inr (by rw [z]; exact hD))
  have hr : ∀ (i : Nat) a, S'.r[i]? = some a → T.r[i]? = some a := fun i a h => by
    show (S'.r ++ [D])[i]? = some a
    rw [List.getElem?_append_left (List.getElem?_eq_some_iff.mp h).1]; exact h
  have hv : Rels T vs ys := Rels.hop (S := S') (S0 := T) rfl (fun _ _ _ h => h) hl hr r
  have gT : Good T := by
    refine ⟨by show (S'.r ++ [D]).length = (S'.h ++ [Obj.list vs]).length; rw [List.length_append, List.length_append, g'.len]; rfl, ?_, fun i o a h1 h2 => ?_, fun a m => ⟨?_, fun hm => ?_⟩⟩
    · show (S'.r ++ [D]).Nodup
      rw [List.nodup_append]
      refine ⟨g'.nd, by simp, fun a ha b hb => ?_⟩
      rw [List.mem_singleton.mp hb]
      rintro rfl
      exact (g'.ow _ hD).2 ha
    · have h1' : (S'.h ++ [Obj.list vs])[i]? = some o := h1
      have h2' : (S'.r ++ [D])[i]? = some a := h2
      by_cases hi : i < S'.r.length
      · rw [List.getElem?_append_left hi] at h2'
        rw [List.getElem?_append_left (by rw [← g'.len]; exact hi)] at h1'
        exact ORel.hop (S := S') (S0 := T) rfl (fun _ _ _ h => h) hl hr (fun _ h => h) (g'.obj i o a h1' h2')
      · rw [List.getElem?_append_right (Nat.le_of_not_lt hi)] at h2'
        rw [List.getElem?_append_right (by rw [← g'.len]; exact Nat.le_of_not_lt hi), ← g'.len] at h1'
        cases hj : i - S'.r.length with
        | zero =>
          rw [hj] at h1' h2'
          simp at h1' h2'
          subst h1' h2'
          exact ⟨ys, hH, hv⟩
        | succ n => rw [hj] at h1'; simp at h1'
    · obtain ⟨⟨u, q⟩, _⟩ := g.ow a m
      exact ⟨u, e.kow a u m q⟩
    · rcases List.mem_append.mp (show a ∈ S'.r ++ [D] from hm) with z | z
      · exact (g'.ow a (e.sub a m)).2 z
      · obtain ⟨⟨u, q⟩, _⟩ := g.ow a m
        rw [List.mem_singleton.mp z, n] at q; cases q
  obtain ⟨t, hp⟩ := e.pre
  refine p T (.ref D) rfl gT ⟨e.K, ⟨t ++ [D], by show S'.r ++ [D] = _; rw [hp, List.append_assoc]⟩, fun a o h nl => ?_, fun _ h => h, e.kow⟩ ⟨D, ?_, rfl⟩
  · obtain ⟨h1, n1⟩ := e.keep a o h nl
    exact ⟨h1, hl a n1 ⟨o, h1⟩⟩
  · show (S'.r ++ [D])[S'.h.length]? = _
    rw [← g'.len]; simp
theorem end_lst {S S' : RS} {D : Addr} {m : Bool} {vs : List Val} {ys : List V} {Q : VK} (g : Good S) (n : S.H D = none) (g' : Good S') (e : Ext S S') (hD : D ∈ S'.own) (hH : S'.H D = some (.lst ys)) (r : Rels S' vs ys)
    (p : Post S (okList m vs S'.h) Q) : Q (.ref D) S'.H := by
  obtain ⟨c, p⟩ := ite_of p
  cases m with
  | true => exact end_mut g n g' e hD hH r p
  | false => exact end_frz g n g' e hD hH r p
/-- what the turns make has room -/
theorem turns_app {pin : Pin} {step : Val → Heap → Res (List Val)} {m : Bool} {Q : VK} {S0 : RS} : ∀ {l : List Val} {h : Heap} {vs : List Val}, Post S0 ((turns pin step l h).bind fun ws h => okList m (vs ++ ws) h) Q → vs.length ≤ SL
  | [], h, vs, p => by
    unfold turns at p
    split at p
    · have p : Post S0 (okList m (vs ++ []) h) Q := p
      rw [List.append_nil] at p
      exact (ite_of p).1
    · exact p.elim
  | v :: r, h, vs, p => by
    unfold turns at p
    split at p
    · cases e : step v h with
      | ok a h1 =>
        rw [e] at p
        simp only [bind_ok] at p
        have p : Post S0 ((turns pin step r h1).bind fun ws h => okList m ((vs ++ a) ++ ws) h) Q := by
          cases e2 : turns pin step r h1 with
          | ok b h2 => rw [e2] at p; simp only [bind_ok] at p ⊢; rw [List.append_assoc]; exact p
          | exc _ _ => rw [e2] at p; exact p
          | stuck => rw [e2] at p; exact p
        have q := turns_app p
        rw [List.length_append] at q
        omega
      | exc _ _ => rw [e] at p; exact p.elim
      | stuck => rw [e] at p; exact p.elim
    · exact p.elim
section
variable {X : Cx}
def stepC (t : Tg) (own : List Nat) (fc : Loc → Heap → Res Bool) (fe : Loc → Heap → Res Val) (ls : Loc) : Val → Heap → Res (List Val) := fun v h => match setTg t v (killL own ls) with
  | some ls => (fc ls h).bind fun b h => if b then (fe ls h).bind fun v h => .ok [v] h else .ok [] h
  | none => .stuck
theorem lc_M {fi : Loc → Heap → Res (List Val × Pin)} {fc : Loc → Heap → Res Bool} {fe : Loc → Heap → Res Val} {t : Tg} {g : TG} {own : List Nat} {m : Bool} {σ : L2.St} {H : Hp} {Q : VK} (hg : GOk X.K t g) (ho : ∀ i ∈ t.slots, i ∈ own)
    (q : tM X.K (fun ls h => (fi ls h).bind fun p h => (turns p.2 (stepC t own fc fe ls) p.1 h).bind fun vs h => okList m vs h) σ H Q) : tLc (tI X.K fi) g (tB X.K fc) (tM X.K fe) own σ H Q := by
  refine tM_bind (g := fun ls p h => (turns p.2 (stepC t own fc fe ls) p.1 h).bind fun vs h => okList m vs h) q fun p J S1 ls hK g1 l1 hJ p1 => ?_
  obtain ⟨items, pin⟩ := p
  intro D hD
  refine ⟨fun i m' H => ∃ (S' : RS) (vs : List Val) (ys : List V), S'.H = H ∧ Good S' ∧ Ext S1 S' ∧ D ∈ S'.own ∧ S'.H D = some (.lst ys) ∧ Rels S' vs ys ∧ m' = items.length - i ∧ i ≤ items.length ∧
    Post S1 ((turns pin (stepC t own fc fe ls) (items.drop i) S'.h).bind fun ws h => okList m (vs ++ ws) h) Q, ⟨_, S1.acc D (.lst []), [], [], rfl, good_acc g1 hD, ext_acc hD, List.mem_cons_self .., upd_same, rfl, rfl, Nat.zero_le _, p1⟩, ?_⟩
  rintro i m' H ⟨S', vs, ys, rfl, g', e', hD', hH, rv, rfl, hi, p⟩
  have hz := turns_app p
  rcases Nat.lt_or_ge i items.length with hlt | hge
  · refine .inr ?_
    have ed : items.drop i = items[i] :: items.drop (i + 1) := List.drop_eq_getElem_cons hlt
    have ei : items[i]? = some items[i] := List.getElem?_eq_getElem hlt
    generalize items[i] = v at ed ei
    rw [ed] at p
    unfold turns at p
    by_cases hp : pinned S'.h pin = true
    · rw [if_pos hp] at p
      obtain ⟨go, yl⟩ := (hJ S' e' g' hp i).1 v ei
      refine ⟨go, fun H' => ∃ (S' : RS) (vs : List Val) (ys : List V), S'.H = H' ∧ Good S' ∧ Ext S1 S' ∧ D ∈ S'.own ∧ S'.H D = some (.lst ys) ∧ Rels S' vs ys ∧
        Post S1 ((turns pin (stepC t own fc fe ls) (items.drop (i + 1)) S'.h).bind fun ws h => okList m (vs ++ ws) h) Q, fun H' ⟨T, us, zs, a1, a2, a3, a4, a5, a6, a7⟩ => ⟨_, by omega, T, us, zs, a1, a2, a3, a4, a5, a6, rfl, hlt, a7⟩, fun x H' y => ?_⟩
      obtain ⟨S3, rfl, h3, g3, e3, r3⟩ := yl x H' y
      rw [← h3] at p
      have e13 := e'.trans e3
      cases es : setTg t v (killL own ls) with
      | none =>
        unfold stepC at p
        rw [es] at p
        exact p.elim
      | some ls' =>
        have p : Post S1 ((fc ls' S3.h).bind fun b h => (if b then (fe ls' h).bind fun v h => .ok [v] h else .ok [] h : Res (List Val)).bind fun a h => ((turns pin (stepC t own fc fe ls) (items.drop (i + 1)) h).bind fun b h => .ok (a ++ b) h).bind fun ws h => okList m (vs ++ ws) h) Q := by
          have e0 : stepC t own fc fe ls v S3.h = (fc ls' S3.h).bind fun b h => if b then (fe ls' h).bind fun v h => .ok [v] h else .ok [] h := by
            unfold stepC
            rw [es]
          rw [e0] at p
          cases ec : fc ls' S3.h with
          | ok b h =>
            rw [ec] at p
            simp only [bind_ok] at p ⊢
            cases b with
            | true =>
              simp only [if_true] at p ⊢
              cases ee : fe ls' h with
              | ok w h => rw [ee] at p; exact p
              | exc _ _ => rw [ee] at p; exact p
              | stuck => rw [ee] at p; exact p
            | false => exact p
          | exc _ _ => rw [ec] at p; exact p
          | stuck => rw [ec] at p; exact p
        refine hg S3 v x (killL own ls) ls' (wipe σ own) _ (e13.K.trans hK) g3 ((l1.ext e13).wiped own) r3 es fun σ2 l2 hw => ⟨by rw [hw own ho]; exact (by
          apply List.ext_getElem?
          intro j
          by_cases hj : j ∈ own
          · rw [wipe_at hj, wipe_at hj, wipe_length]
          · rw [wipe_get hj]), ?_⟩
        refine ⟨S3, ls', e13.K.trans hK, rfl, g3, l2, ?_⟩
        refine PostG.bind2 p fun b c S4 g4 e4 rb p4 => ?_
        cases rb
        have e14 := e13.trans e4
        have hD4 : D ∈ S4.own := e4.sub D (e3.sub D hD')
        have hH4 : S4.H D = some (.lst ys) := e4.kow D _ (e3.sub D hD') (e3.kow D _ hD' hH)
        have rv4 := (rv.ext e3).ext e4
        have rest : ∀ {T : RS} {a : List Val}, Post S1 (((turns pin (stepC t own fc fe ls) (items.drop (i + 1)) T.h).bind fun b h => .ok (a ++ b) h).bind fun ws h => okList m (vs ++ ws) h) Q → Post S1 ((turns pin (stepC t own fc fe ls) (items.drop (i + 1)) T.h).bind fun ws h => okList m ((vs ++ a) ++ ws) h) Q := fun {T a} p => by
          cases et : turns pin (stepC t own fc fe ls) (items.drop (i + 1)) T.h with
          | ok b h => rw [et] at p; simp only [bind_ok] at p ⊢; rw [List.append_assoc]; exact p
          | exc _ _ => rw [et] at p; exact p
          | stuck => rw [et] at p; exact p
        cases b with
        | false =>
          simp only [Bool.false_eq_true, if_false, bind_ok] at p4 ⊢
          have p5 := rest p4
          rw [List.append_nil] at p5
          exact ⟨S4, vs, ys, rfl, g4, e14, hD4, hH4, rv4, p5⟩
        | true =>
          simp only [if_true] at p4 ⊢
          refine ⟨S4, ls', e14.K.trans hK, rfl, g4, l2.ext e4, ?_⟩
          have p4 : Post S1 ((fe ls' S4.h).bind fun w h => ((turns pin (stepC t own fc fe ls) (items.drop (i + 1)) h).bind fun b h => .ok ([w] ++ b) h).bind fun ws h => okList m (vs ++ ws) h) Q := by
            cases ee : fe ls' S4.h with
            | ok w h => rw [ee] at p4; exact p4
            | exc _ _ => rw [ee] at p4; exact p4
            | stuck => rw [ee] at p4; exact p4
          refine PostG.bind2 p4 fun w y S5 g5 e5 ry p5 => ?_
          have hD5 : D ∈ S5.own := e5.sub D hD4
          have hH5 : S5.H D = some (.lst ys) := e5.kow D _ hD4 hH4
          have rv5 := rv4.ext e5
          have p6 := rest p5
          have hz2 := turns_app p6
          refine ⟨ys, hH5, ?_, S5.acc2 D (.lst (ys ++ [y])), vs ++ [w], ys ++ [y], rfl, good_acc2 g5 hD5, ext_acc2 hD (e14.trans e5) hD5, hD5, upd_same, rels_acc2 hD5 (rv5.app (.one ry)), p6⟩
          rw [← rv5.len]
          rw [List.length_append] at hz2
          exact lt_sl (by show vs.length < SL; simp at hz2; omega)
    · rw [if_neg hp] at p
      exact p.elim
  · refine .inl ?_
    have e0 : i = items.length := Nat.le_antisymm hi hge
    rw [List.drop_eq_nil_of_le hge] at p
    unfold turns at p
    by_cases hp : pinned S'.h pin = true
    · rw [if_pos hp] at p
      simp only [bind_ok, List.append_nil] at p
      exact ⟨(hJ S' e' g' hp i).2 (List.getElem?_eq_none hge), end_lst g1 hD g' e' hD' hH rv p⟩
    · rw [if_neg hp] at p
      exact p.elim
end
end M
namespace M
open PySem PySem.Spec PyProof.Rows L2
/-- what is wanted of a statement's outcome -/
def PF (S : RS) (r : Res M.Flow) (D : Ends) : Prop := match r with
  | .ok (.nx ls) h => ∀ (S' : RS) (σ : L2.St), S'.h = h → Good S' → Ext S S' → LRel S' ls σ → D.nx σ S'.H
  | .ok (.ret v) h => ∀ (S' : RS) (x : V), S'.h = h → Good S' → Ext S S' → Rel S' v x → D.rt x S'.H
  | .ok (.brk ls) h => ∀ (S' : RS) (σ : L2.St), S'.h = h → Good S' → Ext S S' → LRel S' ls σ → D.bk σ S'.H
  | .exc _ _ => False
  | .stuck => False
theorem PF.ext {S S' : RS} {r : Res M.Flow} {D : Ends} (p : PF S r D) (e : Ext S S') : PF S' r D := by
  cases r with
  | ok f h =>
    cases f with
    | nx ls => exact fun T σ h2 g2 e2 l2 => p T σ h2 g2 (e.trans e2) l2
    | ret v => exact fun T x h2 g2 e2 l2 => p T x h2 g2 (e.trans e2) l2
    | brk ls => exact fun T σ h2 g2 e2 l2 => p T σ h2 g2 (e.trans e2) l2
  | exc _ _ => exact p
  | stuck => exact p
def tS (K : PySem.W.Frag) (f : Loc → Heap → Res M.Flow) : L2.TS := fun D σ H => ∃ (S : RS) (ls : Loc), S.K = K ∧ S.H = H ∧ Good S ∧ LRel S ls σ ∧ PF S (f ls S.h) D
theorem PF.bind {A B : Type} {R : RS → A → B → Prop} {S0 S : RS} {r : Res A} {g : A → Heap → Res M.Flow} {D : Ends} {Z : B → Hp → Prop} (p : PF S0 (r.bind g) D)
    (k : ∀ a b S1, Good S1 → Ext S S1 → R S1 a b → PF S0 (g a S1.h) D → Z b S1.H) : PostG R S r Z := by
  cases r with
  | ok a h =>
    intro S1 b h1 g1 e1 r1
    subst h1
    exact k a b S1 g1 e1 r1 p
  | exc _ _ => exact p
  | stuck => exact p
theorem tS_bind {A B : Type} {K : PySem.W.Frag} {R : RS → A → B → Prop} {f : Loc → Heap → Res A} {g : Loc → A → Heap → Res M.Flow} {σ : L2.St} {H : Hp} {D : Ends} {Z : B → Hp → Prop}
    (q : tS K (fun ls h => (f ls h).bind fun v h => g ls v h) D σ H) (k : ∀ v x S ls, S.K = K → Good S → LRel S ls σ → R S v x → PF S (g ls v S.h) D → Z x S.H) : tG K R f σ H Z := by
  obtain ⟨S, ls, hK, hH, g0, l0, p⟩ := q
  subst hH
  exact ⟨S, ls, hK, rfl, g0, l0, PF.bind p fun a b S1 g1 e1 r1 p1 => k a b S1 ls (e1.K.trans hK) g1 (l0.ext e1) r1 (p1.ext e1)⟩
section
variable {X : Cx} {c : Ck} {k : Nat} {cl : CallFn} {e : Expr} {pos : Pos} {f : Loc → Heap → Res Val} {fc : Loc → Heap → Res Bool} {fa fb : Loc → Heap → Res M.Flow} {D : Ends} {σ : L2.St} {H : Hp}
theorem tDrop_M (q : tS X.K (fun ls h => (f ls h).bind fun _ h => .ok (.nx ls) h) D σ H) : tDrop (tM X.K f) D σ H :=
  tS_bind (g := fun ls _ h => .ok (.nx ls) h) q fun v x S ls hK g l r p => p S σ rfl g .refl l
theorem tRet_M (q : tS X.K (fun ls h => (f ls h).bind fun v h => .ok (.ret v) h) D σ H) : tRet (tM X.K f) D σ H :=
  tS_bind (g := fun ls v h => .ok (.ret v) h) q fun v x S ls hK g l r p => p S x rfl g .refl r
theorem tIfS_M (q : tS X.K (fun ls h => (fc ls h).bind fun b h => if b then fa ls h else fb ls h) D σ H) : tIfS (tB X.K fc) (tS X.K fa) (tS X.K fb) D σ H :=
  tS_bind (g := fun ls b h => if b then fa ls h else fb ls h) q fun v x S ls hK g l r p => by
    cases r
    cases v with
    | true => exact ⟨S, ls, hK, rfl, g, l, p⟩
    | false => exact ⟨S, ls, hK, rfl, g, l, p⟩
def seqF (f : M.Flow) (h : Heap) (g : Loc → Heap → Res M.Flow) : Res M.Flow := match f with
  | .nx ls => g ls h
  | f => .ok f h
theorem tSeq_M (q : tS X.K (fun ls h => (fa ls h).bind fun f h => seqF f h fb) D σ H) : tSeq (tS X.K fa) (tS X.K fb) D σ H := by
  obtain ⟨S, ls, hK, hH, g0, l0, p⟩ := q
  subst hH
  refine ⟨S, ls, hK, rfl, g0, l0, ?_⟩
  have p : PF S ((fa ls S.h).bind fun f h => seqF f h fb) D := p
  cases e : fa ls S.h with
  | ok f h =>
    rw [e] at p
    cases f with
    | nx ls' => exact fun T τ h2 g2 e2 l2 => ⟨T, ls', e2.K.trans hK, rfl, g2, l2, by rw [h2]; exact PF.ext p e2⟩
    | ret v => exact p
    | brk ls' => exact p
  | exc _ _ => rw [e] at p; exact p
  | stuck => rw [e] at p; exact p
theorem tNext_M (q : tS X.K (fun ls h => .ok (.nx ls) h) D σ H) : tNext D σ H := by
  obtain ⟨S, ls, hK, hH, g0, l0, p⟩ := q
  subst hH
  exact p S σ rfl g0 .refl l0
theorem tBreak_M (q : tS X.K (fun ls h => .ok (.brk ls) h) D σ H) : tBreak D σ H := by
  obtain ⟨S, ls, hK, hH, g0, l0, p⟩ := q
  subst hH
  exact p S σ rfl g0 .refl l0
/-- slots forgotten: nothing is run -/
theorem tKill_M {is : List Nat} {t : L2.TS} (ht : ∀ D σ H, tS X.K fb D σ H → t D σ H) (q : tS X.K (fun ls h => fb (killL is ls) h) D σ H) : t D σ H := by
  obtain ⟨S, ls, hK, hH, g0, l0, p⟩ := q
  exact ht D σ H ⟨S, killL is ls, hK, hH, g0, l0.kill is, p⟩
/-- a store under a target of names -/
theorem tAsg_M {t : Tg} {g : TG} (hg : GOk X.K t g) (q : tS X.K (fun ls h => (f ls h).bind fun v h => (match setTg t v ls with
    | some ls => .ok (.nx ls) h
    | none => .stuck : Res M.Flow)) D σ H) : tAsg (tM X.K f) g D σ H :=
  tS_bind (g := fun ls v h => (match setTg t v ls with
    | some ls => .ok (.nx ls) h
    | none => .stuck : Res M.Flow)) q fun v x S ls hK g1 l r p => by
    cases es : setTg t v ls with
    | none => rw [es] at p; exact p.elim
    | some ls' =>
      rw [es] at p
      exact hg S v x ls ls' σ _ hK g1 l r es fun σ' l' _ => p S σ' rfl g1 .refl l'
/-- a[i] = e -/
theorem tSub_M {fo fi : Loc → Heap → Res Val} (q : tS X.K (fun ls h => (f ls h).bind fun v h => (fo ls h).bind fun x h => (fi ls h).bind fun y h => ref1S x h fun n => int1S y fun j => lst1S h n fun xs => (match ixN xs.length j with
    | some k => .ok (.nx ls) (h.set n (.list (xs.set k v)))
    | none => .stuck : Res M.Flow)) D σ H) : tAsg (tM X.K f) (gSub (tM X.K fo) (tM X.K fi) rSetL) D σ H := by
  refine tS_bind (g := fun ls v h => (fo ls h).bind fun x h => (fi ls h).bind fun y h => ref1S x h fun n => int1S y fun j => lst1S h n fun xs => (match ixN xs.length j with
    | some k => .ok (.nx ls) (h.set n (.list (xs.set k v)))
    | none => .stuck : Res M.Flow)) q fun v x S ls hK g l rv p => ?_
  refine ⟨S, ls, hK, rfl, g, l, PF.bind p fun o ov S2 g2 e2 ro p2 => ?_⟩
  refine ⟨S2, ls, e2.K.trans hK, rfl, g2, l.ext e2, PF.bind p2 fun i iv S3 g3 e3 ri p3 => ?_⟩
  cases o with
  | ref n =>
    cases i with
    | int j =>
      cases ri
      unfold ref1S int1S lst1S at p3
      simp only at p3
      cases e5 : S3.h[n]? with
      | none => rw [e5] at p3; exact p3.elim
      | some ob =>
        rw [e5] at p3
        cases ob with
        | list xs =>
          simp only at p3
          cases e6 : ixN xs.length j with
          | none => rw [e6] at p3; exact p3.elim
          | some k =>
            rw [e6] at p3
            obtain ⟨a, ys, rfl, ha, hH, rz⟩ := ref_lst g3 (ro.ext e3) e5
            have rv3 := (rv.ext e2).ext e3
            have ex : Ext S3 (S3.mut n a (.lst (ys.set k x)) (.list (xs.set k v))) := ext_mut g3 ha e5 (fun z => nomatch z)
            refine ⟨a, ys, j, k, rfl, rfl, hH, by rw [← rz.len]; exact e6, ?_⟩
            exact p3 (S3.mut n a (.lst (ys.set k x)) (.list (xs.set k v))) σ rfl (good_mut g3 ha e5 (fun z => nomatch z) ⟨_, upd_same, (rz.set rv3 k).ext ex⟩) ((e2.trans e3).trans ex) (((l.ext e2).ext e3).ext ex)
        | _ => exact p3.elim
    | _ => exact p3.elim
  | _ => exact p3.elim
/-! ### loops -/
def stepF (t : Tg) (fb : Loc → Heap → Res M.Flow) : Val → Loc → Heap → Res M.Flow := fun v ls h => match setTg t v ls with
  | some ls => fb ls h
  | none => .stuck
theorem tFor_M {fi : Loc → Heap → Res (List Val × Pin)} {t : Tg} {g : TG} (hg : GOk X.K t g) (q : tS X.K (fun ls h => (fi ls h).bind fun p h => forL p.2 (stepF t fb) p.1 ls h) D σ H) : tFor (tI X.K fi) g (tS X.K fb) D σ H := by
  refine tS_bind (g := fun ls p h => forL p.2 (stepF t fb) p.1 ls h) q fun p J S1 ls hK g1 l1 hJ p1 => ?_
  obtain ⟨items, pin⟩ := p
  refine ⟨fun i m' τ H => ∃ (S' : RS) (ls' : Loc), S'.H = H ∧ Good S' ∧ Ext S1 S' ∧ LRel S' ls' τ ∧ m' = items.length - i ∧ i ≤ items.length ∧ PF S1 (forL pin (stepF t fb) (items.drop i) ls' S'.h) D, ⟨_, S1, ls, rfl, g1, .refl, l1, rfl, Nat.zero_le _, p1⟩, ?_⟩
  rintro i m' τ H ⟨S', ls', rfl, g', e', l', rfl, hi, p⟩
  rcases Nat.lt_or_ge i items.length with hlt | hge
  · refine .inr ?_
    have ed : items.drop i = items[i] :: items.drop (i + 1) := List.drop_eq_getElem_cons hlt
    have ei : items[i]? = some items[i] := List.getElem?_eq_getElem hlt
    generalize items[i] = v at ed ei
    rw [ed] at p
    unfold forL at p
    by_cases hp : pinned S'.h pin = true
    · rw [if_pos hp] at p
      obtain ⟨go, yl⟩ := (hJ S' e' g' hp i).1 v ei
      refine ⟨go, fun τ H' => ∃ (S' : RS) (ls' : Loc), S'.H = H' ∧ Good S' ∧ Ext S1 S' ∧ LRel S' ls' τ ∧ PF S1 (forL pin (stepF t fb) (items.drop (i + 1)) ls' S'.h) D, fun τ' H' ⟨T, us, a1, a2, a3, a4, a5⟩ => ⟨_, by omega, T, us, a1, a2, a3, a4, rfl, hlt, a5⟩, fun x H' y => ?_⟩
      obtain ⟨S3, rfl, h3, g3, e3, r3⟩ := yl x H' y
      rw [← h3] at p
      have e13 := e'.trans e3
      cases es : setTg t v ls' with
      | none =>
        unfold stepF at p
        rw [es] at p
        exact p.elim
      | some ls2 =>
        refine hg S3 v x ls' ls2 τ _ (e13.K.trans hK) g3 (l'.ext e3) r3 es fun σ2 l2 _ => ?_
        refine ⟨S3, ls2, e13.K.trans hK, rfl, g3, l2, ?_⟩
        have e0 : stepF t fb v ls' S3.h = fb ls2 S3.h := by
          unfold stepF
          rw [es]
        rw [e0] at p
        cases eb : fb ls2 S3.h with
        | ok f h =>
          rw [eb] at p
          cases f with
          | nx ls3 => exact fun T τ' h2 g2 e2 l2 => ⟨T, ls3, rfl, g2, e13.trans e2, l2, by rw [h2]; exact p⟩
          | ret w => exact fun T y h2 g2 e2 l2 => p T y h2 g2 (e13.trans e2) l2
          | brk ls3 => exact fun T τ' h2 g2 e2 l2 => p T τ' h2 g2 (e13.trans e2) l2
        | exc _ _ => rw [eb] at p; exact p
        | stuck => rw [eb] at p; exact p
    · rw [if_neg hp] at p
      exact p.elim
  · refine .inl ?_
    rw [List.drop_eq_nil_of_le hge] at p
    unfold forL at p
    by_cases hp : pinned S'.h pin = true
    · rw [if_pos hp] at p
      exact ⟨(hJ S' e' g' hp i).2 (List.getElem?_eq_none hge), p S' τ rfl g' e' l'⟩
    · rw [if_neg hp] at p
      exact p.elim
theorem tWhile_M (q : tS X.K (fun ls h => whL fc fb WL ls h) D σ H) : tWhile (tB X.K fc) (tS X.K fb) D σ H := by
  obtain ⟨S1, ls, hK, hH, g1, l1, p1⟩ := q
  subst hH
  refine ⟨fun m τ H => ∃ (S' : RS) (ls' : Loc), S'.H = H ∧ Good S' ∧ Ext S1 S' ∧ LRel S' ls' τ ∧ PF S1 (whL fc fb m ls' S'.h) D, ⟨WL, S1, ls, rfl, g1, .refl, l1, p1⟩, ?_⟩
  rintro m τ H ⟨S', ls', rfl, g', e', l', p⟩
  cases m with
  | zero => exact p.elim
  | succ m =>
    have p : PF S1 ((fc ls' S'.h).bind fun b h => (if b then (fb ls' h).bind fun f h => (match f with
      | .nx ls => whL fc fb m ls h
      | .ret v => .ok (.ret v) h
      | .brk ls => .ok (.nx ls) h) else .ok (.nx ls') h : Res M.Flow)) D := p
    refine ⟨S', ls', e'.K.trans hK, rfl, g', l', PF.bind p fun b d S2 g2 e2 rb p2 => ?_⟩
    cases rb
    have e12 := e'.trans e2
    cases b with
    | false => exact p2 S2 τ rfl g2 e12 (l'.ext e2)
    | true =>
      refine ⟨fun τ' H' => ∃ (S' : RS) (ls' : Loc), S'.H = H' ∧ Good S' ∧ Ext S1 S' ∧ LRel S' ls' τ' ∧ PF S1 (whL fc fb m ls' S'.h) D, fun τ' H' n => ⟨m, Nat.lt_succ_self m, n⟩, S2, ls', e12.K.trans hK, rfl, g2, l'.ext e2, ?_⟩
      simp only [if_true] at p2
      cases eb : fb ls' S2.h with
      | ok f h =>
        rw [eb] at p2
        cases f with
        | nx ls3 => exact fun T τ' h2 g2 e2 l2 => ⟨T, ls3, rfl, g2, e12.trans e2, l2, by rw [h2]; exact p2⟩
        | ret w => exact fun T y h2 g2 e2 l2 => p2 T y h2 g2 (e12.trans e2) l2
        | brk ls3 => exact fun T τ' h2 g2 e2 l2 => p2 T τ' h2 g2 (e12.trans e2) l2
      | exc _ _ => rw [eb] at p2; exact p2
      | stuck => rw [eb] at p2; exact p2
end
end M
namespace M
open PySem PySem.Spec PyProof.Rows L2
/-! ### tables -/
def binOf : Operator → Option P
  | .Add => some .add
  | .Sub => some .sub
  | .Mult => some .mul
  | .FloorDiv => some .fdiv
  | .Mod => some .mod
  | .Pow => some .pow
  | _ => none
def cmpOf : CmpOp → Option P
  | .Eq => some .eq
  | .NotEq => some .ne
  | .Lt => some .lt
  | .LtE => some .le
  | .Gt => some .gt
  | .GtE => some .ge
  | .In => some .mem
  | .NotIn => some .notmem
  | _ => none
def isOf1 : CmpOp → Expr → Option P
  | .Is, .Constant .none _ _ => some .isNone
  | .IsNot, .Constant .none _ _ => some .isNotNone
  | .Is, .Constant (.bool true) _ _ => some .isTrue
  | .Is, .Constant (.bool false) _ _ => some .isFalse
  | .IsNot, .Constant (.bool true) _ _ => some .isNotTrue
  | .IsNot, .Constant (.bool false) _ _ => some .isNotFalse
  | _, _ => none
def bltN : P → Option (Str × Bool × String)
  | .len => some ("len", false, "len")
  | .all => some ("all", false, "all")
  | .any => some ("any", false, "any")
  | .sum => some ("sum", false, "sum")
  | .repr => some ("repr", false, "repr")
  | .ord => some ("ord", false, "ord")
  | .min2 => some ("min", false, "min")
  | .min1 => some ("min", false, "min")
  | .max2 => some ("max", false, "max")
  | .max1 => some ("max", false, "max")
  | .int => some ("int", true, "int")
  | .str => some ("str", true, "str")
  | .listOf _ => some ("list", true, "list")
  | .tupOf => some ("tuple", true, "tuple")
  | _ => none
def mthN : P → Option (Str × String)
  | .append => some ("append", "list")
  | .pop => some ("pop", "list")
  | .popAt => some ("pop", "list")
  | .extend => some ("extend", "list")
  | .join => some ("join", "str")
  | .upper => some ("upper", "str")
  | .count => some ("count", "str")
  | _ => none
section
variable {X : Cx} {c : Ck} {k : Nat} {cl : CallFn}
def binAddm (op : Operator) (p : P) : Bool := match op, p with
  | .Add, .addm => true
  | _, _ => false
def binOk (op : Operator) (p : P) : Bool := decide (binOf op = some p) || binAddm op p
theorem bin_ok {op : Operator} {p : P} (h : binOk op p = true) : ∃ r, OpR X (binaryOp op) r ∧ PR2 X p r := by
  rcases Bool.or_eq_true_iff.mp h with h | h
  · have h := of_decide_eq_true h
    cases op <;> cases h
    · exact ⟨_, op_addAll, pr_add⟩
    · exact ⟨_, op_sub, pr_sub⟩
    · exact ⟨_, op_mulA, pr_mul⟩
    · exact ⟨_, op_mod, pr_mod⟩
    · exact ⟨_, op_pow, pr_pow⟩
    · exact ⟨_, op_fdiv, pr_fdiv⟩
  · unfold binAddm at h
    split at h
    · exact ⟨_, op_addAll, pr_addm⟩
    · cases h
theorem optB_bool {o : Option Bool} {h h' : Heap} {v : Val} (e : optB o h = .ok v h') : ∃ b, v = .bool b := by
  cases o with
  | none => cases e
  | some b => cases e; exact ⟨b, rfl⟩
theorem cmp_ok (hu : X.A.units + 65 < cLine) {op : CmpOp} {p : P} (h : cmpOf op = some p) : (∃ r, OpR X (compareOp op) r ∧ PR2 X p r) ∧ ∀ v w h h' u, evP p [v, w] h = .ok u h' → ∃ b, u = .bool b := by
  cases op <;> cases h
  · exact ⟨⟨_, op_eqD (by omega), pr_eq⟩, fun v w h h' u e => optB_bool e⟩
  · exact ⟨⟨_, op_neD (by omega), pr_ne⟩, fun v w h h' u e => optB_bool e⟩
  · exact ⟨⟨_, op_ltO, pr_lt⟩, fun v w h h' u e => optB_bool e⟩
  · exact ⟨⟨_, op_leO, pr_le⟩, fun v w h h' u e => optB_bool e⟩
  · exact ⟨⟨_, op_gtO, pr_gt⟩, fun v w h h' u e => optB_bool e⟩
  · exact ⟨⟨_, op_geO, pr_ge⟩, fun v w h h' u e => optB_bool e⟩
  · exact ⟨⟨_, op_inA hu, pr_mem⟩, fun v w h h' u e => optB_bool e⟩
  · exact ⟨⟨_, op_notInA hu, pr_notmem⟩, fun v w h h' u e => optB_bool e⟩
theorem bool1_bool {a : Val} {f : Bool → Bool} {h h' : Heap} {u : Val} (e : bool1 a (fun b => .ok (.bool (f b)) h) = .ok u h') : ∃ b, u = .bool b := by
  cases a with
  | bool b => cases e; exact ⟨_, rfl⟩
  | _ => cases e
theorem is_ok {op : CmpOp} {b : Expr} {p : P} (h : isOf1 op b = some p) : (∃ r y, OpR X (compareOp op) r ∧ PE X b (tC y) ∧ PR1 X p (fun x H Q => r x y H Q)) ∧ ∀ v h h' u, evP p [v] h = .ok u h' → ∃ b, u = .bool b := by
  unfold isOf1 at h
  split at h <;> cases h
  · exact ⟨⟨_, .non, op_isN, pe_non, fun S v x Q hK g r p => ⟨rfl, p1_isNone S v x Q hK g r p⟩⟩, fun v h h' u e => by cases e; exact ⟨_, rfl⟩⟩
  · exact ⟨⟨_, .non, op_notN, pe_non, fun S v x Q hK g r p => ⟨rfl, p1_isNotNone S v x Q hK g r p⟩⟩, fun v h h' u e => by cases e; exact ⟨_, rfl⟩⟩
  · exact ⟨⟨_, .bl true, op_isBl, pe_bl, p1_isTrue⟩, fun v h h' u e => bool1_bool (f := fun b => b) e⟩
  · exact ⟨⟨_, .bl false, op_isBl, pe_bl, p1_isFalse⟩, fun v h h' u e => bool1_bool (f := fun b => !b) e⟩
  · exact ⟨⟨_, .bl true, op_notBl, pe_bl, p1_isNotTrue⟩, fun v h h' u e => bool1_bool (f := fun b => !b) e⟩
  · exact ⟨⟨_, .bl false, op_notBl, pe_bl, p1_isNotFalse⟩, fun v h h' u e => bool1_bool (f := fun b => b) e⟩
theorem boot_len1 : bootBuiltins "len" = some (.builtin "len") := by decide +kernel
theorem blt_ok (F : CF X c k cl) {p : P} {nm : Str} {ty : Bool} {id : String} (h : bltN p = some (nm, ty, id)) :
    ∃ r, PRc X p r ∧ ((ty = false ∧ CallR X (.builtin id) r ∧ bootBuiltins nm = some (.builtin id)) ∨ (ty = true ∧ CallR X (.type id) r ∧ bootBuiltins nm = some (.type id))) := by
  cases p <;> cases h
  · exact ⟨_, pr_len, .inl ⟨rfl, call_lenA, boot_len1⟩⟩
  · exact ⟨_, pr_all, .inl ⟨rfl, cr_all F.calm, boot_all⟩⟩
  · exact ⟨_, pr_any, .inl ⟨rfl, cr_any F.calm, boot_any⟩⟩
  · exact ⟨_, pr_sum, .inl ⟨rfl, cr_sum F.calm, boot_sum⟩⟩
  · exact ⟨_, pr_int, .inr ⟨rfl, call_int1, boot_int⟩⟩
  · exact ⟨_, pr_str, .inr ⟨rfl, call_str1, boot_str⟩⟩
  · exact ⟨_, pr_repr, .inl ⟨rfl, call_reprA F.guards F.units, boot_repr⟩⟩
  · exact ⟨_, pr_ord, .inl ⟨rfl, call_ord, boot_ord⟩⟩
  · exact ⟨_, pr_listOf, .inr ⟨rfl, call_list_of, boot_list⟩⟩
  · exact ⟨_, pr_tupOf, .inr ⟨rfl, call_tuple_of, boot_tuple⟩⟩
  · exact ⟨_, pr_min2, .inl ⟨rfl, call_min2 F.calm, boot_min⟩⟩
  · exact ⟨_, pr_max2, .inl ⟨rfl, call_max2 F.calm, boot_max⟩⟩
  · exact ⟨_, pr_min1, .inl ⟨rfl, cr_min F.calm, boot_min⟩⟩
  · exact ⟨_, pr_max1, .inl ⟨rfl, cr_max F.calm, boot_max⟩⟩
theorem mth_ok {p : P} {nm : Str} {T : String} (h : mthN p = some (nm, T)) :
    ∃ id r, PlainAttrs T ∧ Slot T nm id ∧ typeOf (.builtin id) = pure (.type "method_descriptor") ∧ MtR X id r ∧ PRm X p T r ∧ ∀ {S : RS} {v : Val} {x : V}, Good S → Rel S v x → recv p v S.h = true → tyV S.K T x S.H := by
  cases p <;> cases h
  · exact ⟨_, _, F.plainAttrs_str, F.slot_str_join, F.type_str_join, mt_join, pm_join, fun g r e => recv_str r e⟩
  · exact ⟨_, _, F.plainAttrs_str, F.slot_str_upper, F.type_str_upper, mt_upper, pm_upper, fun g r e => recv_str r e⟩
  · exact ⟨_, _, F.plainAttrs_str, F.slot_str_count, F.type_str_count, mt_count, pm_count, fun g r e => recv_str r e⟩
  · exact ⟨_, _, F.plainAttrs_list, F.slot_list_append, F.type_list_append, mt_append, pm_append, fun g r e => recv_lst g r e⟩
  · exact ⟨_, _, F.plainAttrs_list, F.slot_list_pop, F.type_list_pop, mt_pop, pm_pop, fun g r e => recv_lst g r e⟩
  · exact ⟨_, _, F.plainAttrs_list, F.slot_list_pop, F.type_list_pop, mt_popAt, pm_popAt, fun g r e => recv_lst g r e⟩
  · exact ⟨_, _, F.plainAttrs_list, F.slot_list_extend, F.type_list_extend, mt_extend, pm_extend, fun g r e => recv_lst g r e⟩
end
end M
namespace M
open PySem PySem.Spec PyProof.Rows L2
/-- x[::-1], by values -/
def RvR (X : Cx) (r : V → Hp → VK → Prop) : Prop :=
  ∀ (pins : List (Addr × PySem.Obj)) (s : Shared) (σ : L2.St) (H : Hp) (x : V) (v vl vu vs : Value) (sl : Addr) (Q : VK), Inv X pins σ H s → RelV x v → s.heap.IsSliceOf sl vl vu vs → IsPart vl none → IsPart vu none → IsPart vs (some (-1)) → r x H Q →
    ∃ T id, typeLookup (.type T) "__getitem__" = pure (some (.builtin id)) ∧ s.TypeIs v T ∧ wpAny (model X.prog X.w) X.A (getItem v (.ref sl)) (EP X pins σ Q) X.xe s
section
variable {X : Cx}
theorem RvR.or {r r' : V → Hp → VK → Prop} (h : RvR X r) (h' : RvR X r') : RvR X (fun x H Q => r x H Q ∨ r' x H Q) := fun pins s σ H x v vl vu vs sl Q I rx hs pl pu ps q =>
  q.elim (h pins s σ H x v vl vu vs sl Q I rx hs pl pu ps) (h' pins s σ H x v vl vu vs sl Q I rx hs pl pu ps)
theorem pe_revG {r : V → Hp → VK → Prop} {e : Expr} {te : TE} {j : Nat} {p1 p2 p3 pos : Pos} (hr : RvR X r) (he : PE X e te) :
    PE X (.Subscript e (.Slice none none (some (.UnaryOp .USub (.Constant (.int 1) j p1) p2)) p3) pos) (fun σ H Q => te σ H fun x H1 => r x H1 Q) := by
  refine ⟨fun pins s σ H Q I hq => ?_⟩
  refine Subscript_ (thn (he.run pins s σ H _ I hq) fun v sa ⟨x, Ha, Ia, ra, qa⟩ => ?_)
  have step : PO X (some (.UnaryOp .USub (.Constant (.int 1) j p1) p2)) (tPart (tUn (rU fun i => .int (-i)) (tC (.int 1)))) := po_some (pe_un un_neg pe_int)
  refine wpAny_Slice (thn (po_none.run pins sa σ Ha (fun o Hb => o = none ∧ Hb = Ha) Ia ⟨rfl, rfl⟩) fun vl sb ⟨l, Hb, Ib, pl, el, eb⟩ => ?_)
  subst el eb
  refine thn (po_none.run pins sb σ Hb (fun o Hc => o = none ∧ Hc = Hb) Ib ⟨rfl, rfl⟩) fun vu sc ⟨u, Hc, Ic, pu, eu, ec⟩ => ?_
  subst eu ec
  refine thn (step.run pins sc σ Hc (fun o Hd => o = some (-1) ∧ Hd = Hc) Ic ⟨1, rfl, -1, rfl, rfl, rfl⟩) fun vs sd ⟨o, Hd, Id, ps, eo, ed⟩ => ?_
  subst eo ed
  have Ie : Inv X pins σ Hd { sd with heap := sd.heap.push { cls := .type "slice", data := .fields #[vl, vu, vs] } } := Id.kept (t' := sd.toks) fun b ob z => Heap.get?_push_of_some _ z
  obtain ⟨T, id, hT, ht, hg⟩ := hr pins _ σ Hd x v vl vu vs sd.heap.objs.size Q Ie ra (Heap.IsSliceOf.new ..) pl pu ps qa
  exact tail_any ht hT hg (ops := [v, .ref sd.heap.objs.size]) (by with_unfolding_all rfl)
def rRevL (K : PySem.W.Frag) : V → Hp → VK → Prop := fun x H Q => ∃ a xs, x = .ref a ∧ SqL K H a xs ∧ ∀ p, H p = none → Q (.ref p) (upd H p (.lst xs.reverse))
theorem rv_list : RvR X (rRevL X.K) := fun pins s σ H x v vl vu vs sl Q I rx hs pl pu ps q => by
  obtain ⟨a, xs, rfl, hx, q⟩ := q
  cases rx
  obtain ⟨its, r, ht, hz⟩ := I.list hx
  have hlen := r.length
  refine ⟨"list", _, PySem.slot_list_getitem.lookup, ht.isList.typeIs, ?_⟩
  refine wpAny_getItem_list_slice ht.isList hs pl pu ps (by decide) ?_ (by rw [List.size_toArray]; omega)
  rw [PySem.W.krv_pick]
  refine ⟨.ref _, _, I.laid (t' := s.toks) (o := .lst xs.reverse) (fun b ob z => Heap.get?_push_of_some _ z) (Nat.le_refl _) ?_, rfl, q _ (I.hok.fresh (Nat.le_refl _))⟩
  exact ⟨by rw [List.length_reverse]; exact hz, _, 0, r.reverse, Heap.get?_push_size _ rfl⟩
def rRevS : V → Hp → VK → Prop := fun x H Q => ∃ z : Str, x = .str z ∧ z.length ≤ sizeLine ∧ Q (.str (toS z.cps.toList.reverse)) H
theorem rev_picked (z : Str) (t : Tok) : (slicePicked z none none (some (-1, t))).filterMap (z.cps[·]?) = z.cps.toList.reverse := by
  have e : slicePicked z none none (some (-1, t)) = (List.range z.cps.size).reverse := by
    show PySem.Builtin.Str.strSliceIndices none none (-1) z.length = _
    unfold PySem.Builtin.Str.strSliceIndices
    show sliceRange ((z.cps.size : Int) - 1) (-1) (-1) = _
    rw [PySem.W.krv_sliceRange, PySem.W.krv_range]
  rw [e, List.filterMap_reverse, PySem.W.krv_all]
theorem rv_str : RvR X rRevS := fun pins s σ H x v vl vu vs sl Q I rx hs pl pu ps q => by
  obtain ⟨z, rfl, hz, q⟩ := q
  obtain ⟨t, rfl⟩ := rx
  cases pl
  cases pu
  cases ps with
  | int _ tk =>
    refine ⟨"str", _, F.slot_str_getitem.lookup, typeIs_str _ _ _, ?_⟩
    refine wpAny_getItem_str_slice (l := none) (u := none) (st := some (-1, tk)) hs rfl ?_
    have e : sliceMade z t none none (some (-1, tk)) = .str (toS z.cps.toList.reverse) := by
      unfold sliceMade
      rw [rev_picked]
      rfl
    rw [e]
    exact ⟨by rw [toS_len, List.length_reverse]; exact hz, ⟨.str _, H, I.tok _, ⟨_, rfl⟩, q⟩⟩
theorem slice_rev {prog : Program} {w : World} {A : Around} {E : Value → Shared → Prop} {s : Shared} {sl : Addr} {vl vu vs : Value} {n : Nat} {Q : Int × Int × Nat → Shared → Prop} (hs : s.heap.IsSliceOf sl vl vu vs) (pl : IsPart vl none) (pu : IsPart vu none) (ps : IsPart vs (some (-1)))
    (h : Q ((n : Int) - 1, -1, n) s) : wpAny (model prog w) A (Builtin.Slice.sliceApplied (.ref sl) (pure (n : Int))) Q E s := by
  obtain ⟨os, hos, hcs, hds⟩ := id hs
  unfold Builtin.Slice.sliceApplied Builtin.Slice.sliceFields
  refine wpAny_bind (wpAny_bind (wpAny_field hos hds (x := vl) rfl (wpAny_bind (wpAny_field hos hds (x := vu) rfl (wpAny_bind (wpAny_field hos hds (x := vs) rfl (wpAny_pure ?_)))))))
  refine wpAny_bind (HT.slicePart_ ps ?_)
  show wpAny _ _ (if ((-1 : Int) == 0) = true then _ else _) _ _ s
  rw [if_neg (by decide)]
  refine wpAny_bind (HT.slicePart_ pl (wpAny_bind (HT.slicePart_ pu (wpAny_bind (wpAny_pure ?_)))))
  show wpAny _ _ (match Builtin.Slice.sliceAdjust none none (-1) (n : Int) with | (lo, hi) => pure (lo, (-1 : Int), Builtin.Slice.slicePlaces lo hi (-1))) _ _ s
  have e1 : Builtin.Slice.sliceAdjust none none (-1) (n : Int) = ((n : Int) - 1, -1) := rfl
  rw [e1]
  show wpAny _ _ (pure ((n : Int) - 1, (-1 : Int), Builtin.Slice.slicePlaces ((n : Int) - 1) (-1) (-1))) _ _ s
  have e2 : Builtin.Slice.slicePlaces ((n : Int) - 1) (-1) (-1) = n := by
    unfold Builtin.Slice.slicePlaces
    rw [if_neg (by decide)]
    have e3 : -(-1 : Int) = 1 := rfl
    rw [e3, Int.ediv_one]
    split <;> omega
  rw [e2]
  exact wpAny_pure h
theorem pick_rev (xs : Array Value) : ((List.range xs.size).filterMap fun (m : Nat) => xs[(((xs.size : Int) - 1) + (m : Int) * -1).toNat]?).toArray = xs.toList.reverse.toArray := by
  congr 1
  have e : (List.range xs.size).filterMap (fun (m : Nat) => xs[(((xs.size : Int) - 1) + (m : Int) * -1).toNat]?) = ((List.range xs.size).map fun k => xs.size - 1 - k).filterMap (xs[·]?) := by
    rw [List.filterMap_map]
    congr 1
    funext m
    have : (((xs.size : Int) - 1) + (m : Int) * -1).toNat = xs.size - 1 - m := by omega
    show xs[(((xs.size : Int) - 1) + (m : Int) * -1).toNat]? = xs[xs.size - 1 - m]?
    rw [this]
  rw [e, PySem.W.krv_range, List.filterMap_reverse, PySem.W.krv_all]
theorem getItem_rev {prog : Program} {w : World} {A : Around} {E : Value → Shared → Prop} {s : Shared} {t sl : Addr} {items : Array Value} {vl vu vs : Value} {Q : Value → Shared → Prop} (ht : IsTup s.heap t items) (hs : s.heap.IsSliceOf sl vl vu vs) (pl : IsPart vl none) (pu : IsPart vu none) (ps : IsPart vs (some (-1)))
    (h : Q (.ref s.heap.objs.size) { s with heap := s.heap.push { cls := .type "tuple", data := .seq items.toList.reverse.toArray } })
    (hsz : items.size ≤ sizeLine) : wpAny (model prog w) A (getItem (.ref t) (.ref sl)) Q E s := by
  have htake : sizeOk (.seq items.toList.reverse.toArray) := by
    show items.toList.reverse.toArray.size ≤ sizeLine
    rw [List.size_toArray, List.length_reverse, Array.length_toList]
    exact hsz
  obtain ⟨os, hos, hcs, hds⟩ := id hs
  have hTs : s.TypeIs (.ref sl) "slice" := ⟨os, hos, hcs⟩
  unfold getItem
  try with_reducible refine wpAny_holding ?_
  first | refine wpAny_bind (wpAny_pure ?_) | skip
  refine wpAny_bind (wpAny_sequenceKey ht.typeIs (by decide) ?_)
  refine wpAny_bind (wpAny_callSpecial?_slot (name := Str.ofString "__getitem__") ht.typeIs PyProof.Rows.slot_tuple_getitem
    (wpAny_call_entry PyProof.Rows.slot_tuple_getitem ht.typeIs entry_tuple_getitem ?_ (args_tuple_getitem _ _)))
  show wpAny _ _ (Builtin.Tuple.tupleItemsOf (.ref t) >>= _) _ _ s
  refine wpAny_bind (PyProof.Rows.tupleItemsOf_ ht ?_)
  refine wpAny_bind (wpAny_typeOf hTs ?_)
  rw [if_pos (by decide)]
  refine wpAny_bind (slice_rev hs pl pu ps ?_)
  have hno : ¬ ((((items.size : Int) - 1) == 0 && (-1 : Int) == 1 && items.size == items.size) = true) := by
    intro q
    rw [Bool.and_eq_true, Bool.and_eq_true] at q
    exact absurd q.1.2 (by decide)
  show wpAny _ _ (if (((items.size : Int) - 1) == 0 && (-1 : Int) == 1 && items.size == items.size) = true then _ else _) _ _ s
  rw [if_neg hno, pick_rev]
  first
    | exact wpAny_bind (m := Builtin.Tuple.tupleExact _) (wpAny_newObj_type (wpAny_pure ⟨_, rfl, wpAny_pure h⟩) htake)
    | exact wpAny_bind (m := Builtin.Tuple.tupleExact _) (wpAny_newObj_type (wpAny_bind (wpAny_pure (wpAny_pure ⟨_, rfl, wpAny_pure h⟩))) htake)
    | exact wpAny_bind (wpAny_bind (m := Builtin.Tuple.tupleExact _) (wpAny_newObj_type (wpAny_pure (wpAny_pure ⟨_, rfl, wpAny_pure h⟩)) htake))
    | exact wpAny_bind (wpAny_bind (m := Builtin.Tuple.tupleExact _) (wpAny_newObj_type (wpAny_pure ⟨_, rfl, wpAny_pure h⟩) htake))
def rRevT (K : PySem.W.Frag) : V → Hp → VK → Prop := fun x H Q => ∃ a xs, x = .ref a ∧ SqT K H a xs ∧ ∀ p, H p = none → Q (.ref p) (upd H p (.tup xs.reverse))
theorem rv_tup : RvR X (rRevT X.K) := fun pins s σ H x v vl vu vs sl Q I rx hs pl pu ps q => by
  obtain ⟨a, xs, rfl, hx, q⟩ := q
  cases rx
  obtain ⟨its, r, ht, hz⟩ := I.tuple hx
  have hlen : its.toArray.size = xs.length := by rw [List.size_toArray]; exact r.length.symm
  refine ⟨"tuple", _, PyProof.Rows.slot_tuple_getitem.lookup, ht.typeIs, ?_⟩
  refine getItem_rev ht hs pl pu ps ?_ (by rw [hlen]; exact hz)
  refine ⟨.ref s.heap.objs.size, _, I.laid (t' := s.toks) (o := .tup xs.reverse) (fun b ob q => Heap.get?_push_of_some _ q) (Nat.le_refl _) ?_, rfl, q _ (I.hok.fresh (Nat.le_refl _))⟩
  exact ⟨by rw [List.length_reverse]; exact hz, _, r.reverse, IsTup.new _ _⟩
theorem p1_rev {m : Bool} : PR1 X (.rev m) (fun x H Q => (rRevL X.K x H Q ∨ rRevS x H Q) ∨ rRevT X.K x H Q) := fun S v x Q hK g r p => by
  have p : Post S (match dr S.h v with
    | some (.list xs) => okList m xs.reverse S.h
    | some (.str s) => .ok (.str s.reverse) S.h
    | some (.tup xs) => okTup xs.reverse S.h
    | _ => .stuck) Q := p
  cases e : dr S.h v with
  | none => rw [e] at p; exact p.elim
  | some w =>
    rw [e] at p
    have d := dr_rel g r e
    cases w with
    | list xs =>
      obtain ⟨a, ys, rfl, h, r⟩ := d
      exact .inl (.inl ⟨a, ys, rfl, .inl (.inl h), (okList_of g r.rev p).2⟩)
    | tup xs =>
      obtain ⟨a, ys, rfl, h, r⟩ := d
      obtain ⟨c, p⟩ := okTup_of p
      exact .inr ⟨a, ys, rfl, by rw [← hK]; exact h, fun q n => new_tup g r.rev p n⟩
    | str s =>
      obtain ⟨rfl, a⟩ := d
      refine .inl (.inr ⟨_, rfl, by rw [toS_len, ← SL_eq]; exact (asc_iff.mp a).2, ?_⟩)
      rw [toS_cps]
      exact old_str g (asc_iff.mpr ⟨fun c hc => (asc_iff.mp a).1 c (List.mem_reverse.mp hc), by rw [List.length_reverse]; exact (asc_iff.mp a).2⟩) p
    | _ => exact p.elim
end
end M
namespace M
open PySem PySem.Spec PyProof.Rows L2
/-! ### the checker of expressions -/
def revE : Expr → Bool
  | .UnaryOp .USub (.Constant (.int 1) _ _) _ => true
  | _ => false
/-- a primitive's parts in the text -/
def primV (c : Ck) (p : P) : Expr → Option (List Expr)
  | .BinOp l op r _ => if binOk op p then some [l, r] else none
  | .UnaryOp .USub a _ => if p = .neg then some [a] else none
  | .Compare l [op] [r] _ => if cmpOf op = some p then some [l, r] else if isOf1 op r = some p then some [l] else none
  | .Tuple es _ _ => if p = .tup then some es else none
  | .List es _ => (match p with
    | .list _ => some es
    | _ => none)
  | .Subscript a (.Slice lo hi none _) _ => (match p, lo, hi with
    | .sl true true, some x, some y => some [a, x, y]
    | .sl true false, some x, none => some [a, x]
    | .sl false true, none, some y => some [a, y]
    | .sl false false, none, none => some [a]
    | _, _, _ => none)
  | .Subscript a (.Slice none none (some (.UnaryOp .USub (.Constant (.int 1) _ _) _)) _) _ => (match p with
    | .rev _ => some [a]
    | _ => none)
  | .Subscript a b _ => if p = .ix then some [a, b] else none
  | .Call (.Name x _) args [] _ => (match p, args with
    | .isi [t], [a, .Name y _] => if (x == ("isinstance" : Str)) && (y == Str.ofString (tyName t)) && inL x c.bl && inL y c.bl && glB c.sc x && glB c.sc y && decide (t < 6) then some [a] else none
    | p, args => (match bltN p with
      | some (nm, _, _) => if (x == nm) && inL x c.bl && glB c.sc x && nmOk x && !args.isEmpty then some args else none
      | none => none))
  | _ => none
def litOk (c : Ck) (v : Val) : Expr → Bool
  | .Constant k _ _ => (match litC k with
    | some w => Val.same v w
    | none => false)
  | .Name x _ => glB c.sc x && nmOk x && c.gls.any fun p => (p.1 == x) && Val.same p.2 v
  | .Dict [] [] _ => Val.same v (.dict [] [])
  | .Dict [some (.Constant k1 _ _)] [.Constant k2 _ _] _ => (match keyC k1, litC k2 with
    | some (_, kv), some w => Val.same v (.dict [kv] [w])
    | _, _ => false)
  | _ => false
def selSame : List (Sum Nat Val) → List (Sum Nat Val) → Bool
  | [], [] => true
  | .inl i :: r, .inl j :: s => i == j && selSame r s
  | .inr v :: r, .inr w :: s => Val.same v w && selSame r s
  | _, _ => false
theorem selSame_eq : ∀ {a b : List (Sum Nat Val)}, selSame a b = true → a = b
  | [], [], _ => rfl
  | [], _ :: _, h => by cases h
  | .inl _ :: _, [], h => by cases h
  | .inr _ :: _, [], h => by cases h
  | .inl i :: r, .inl j :: s, h => by
    have h' := Bool.and_eq_true_iff.mp (show (i == j && selSame r s) = true from h)
    rw [eq_of_beq h'.1, selSame_eq h'.2]
  | .inr v :: r, .inr w :: s, h => by
    have h' := Bool.and_eq_true_iff.mp (show (Val.same v w && selSame r s) = true from h)
    rw [same_eq h'.1, selSame_eq h'.2]
  | .inl _ :: _, .inr _ :: _, h => by cases h
  | .inr _ :: _, .inl _ :: _, h => by cases h
def strsSame : List Str → List Str → Bool
  | [], [] => true
  | x :: r, y :: s => x == y && strsSame r s
  | _, _ => false
theorem strsSame_eq : ∀ {a b : List Str}, strsSame a b = true → a = b
  | [], [], _ => rfl
  | [], _ :: _, h => by cases h
  | _ :: _, [], h => by cases h
  | x :: r, y :: s, h => by
    have h' := Bool.and_eq_true_iff.mp (show (x == y && strsSame r s) = true from h)
    rw [eq_of_beq h'.1, strsSame_eq h'.2]
def callOk (c : Ck) (f : Nat) (sel : List (Sum Nat Val)) (x : Str) (args : List Expr) (kws : List Keyword) : Bool := match c.fns[f]? with
  | some fe => (fe.x == x) && glB c.sc x && nmOk x && kwsE kws && fe.shapes.any fun sh => decide (sh.n = args.length) && strsSame (kwN kws) sh.ks && selSame sel sh.sel
  | none => false
def ownP (c : Ck) (own : List Nat) : List (Str × Nat) := own.map fun i => ((c.N[i]?).getD default, i)
def locB (sc : Scope) (x : Str) : Bool := match sc.names.lookup x with
  | some .local => true
  | some .cell => true
  | _ => false
/-- within a comprehension -/
def ckB (c : Ck) (scope : Scope) (own : List Nat) : Ck := { c with sc := relS scope c.sc, st := ((ownP c own).map Prod.fst).filter (locB scope) }
def compOk (c : Ck) (own : List Nat) (t : Tg) (scope : Scope) (tg : Expr) : Bool := blkC c.N c.sc scope (ownP c own) && (t.slots.all fun i => own.contains i) && okTg (ckB c scope own) t tg
/-- one clause -/
def gen1 : List Comprehension → Option (Expr × Expr × List Expr)
  | [g] => if g.is_async = 0 then some (g.target, g.iter, g.ifs) else none
  | _ => none
theorem gen1_ok {gs : List Comprehension} {tg it : Expr} {ifs : List Expr} (h : gen1 gs = some (tg, it, ifs)) : gs = [⟨tg, it, ifs, 0⟩] := by
  match gs, h with
  | [g], h =>
    obtain ⟨a, b, d, z⟩ := g
    unfold gen1 at h
    simp only at h
    split at h
    · rename_i e
      cases h
      rw [e]
    · cases h
  | [], h => cases h
  | _ :: _ :: _, h => cases h
mutual
def okE (c : Ck) : ME → Expr → Bool
  | .lit v, e => plainE e && litOk c v e
  | .var i, .Name x _ => (match c.N[i]? with
    | some y => y == x
    | none => false) && visB c.sc x && nmOk x
  | .prim p es, e => plainE e && (match primV c p e with
    | some xs => okEs c es xs
    | none => false)
  | .and a b, .BoolOp .And (x :: y :: rest) pos => okE c a x && (if rest.isEmpty then okE c b y else okE c b (.BoolOp .And (y :: rest) pos))
  | .or a b, .BoolOp .Or (x :: y :: rest) pos => okE c a x && (if rest.isEmpty then okE c b y else okE c b (.BoolOp .Or (y :: rest) pos))
  | .not a, .UnaryOp .Not x _ => okE c a x
  | .ite t a b, .IfExp x y z _ => okE c t x && tst t && okE c a y && okE c b z
  | .chain p q a b d, .Compare x [o1, o2] [y, z] _ => (cmpOf o1 == some p) && (cmpOf o2 == some q) && okE c a x && okE c b y && okE c d z
  | .call f es kes sel, .Call (.Name x _) args kws _ => callOk c f sel x args kws && okEs c es args && okEs c kes (kws.map fun k => k.value)
  | .comp m own t i cs e, .ListComp elt gens scope _ => (match gen1 gens with
    | some (tg, iter, ifs) => plainE iter && compOk c own t scope tg && okI c tg i iter && okEs (ckB c scope own) cs ifs && decide (ifs.length ≤ 1) && (cs.all tst) && okE (ckB c scope own) e elt
    | none => false)
  | .frz m, e => okE c m e
  | .meth p o es, .Call (.Attribute ob nm apos) args [] cpos => (match mthN p with
    | some (n, _) => n == nm
    | none => false) && baseE ob && (apos.endLine == cpos.line) && decide (args.length < 28) && okE c o ob && okEs c es args
  | _, _ => false
def okEs (c : Ck) : List ME → List Expr → Bool
  | [], [] => true
  | m :: ms, e :: es => okE c m e && okEs c ms es
  | _, _ => false
def okI (c : Ck) (tg : Expr) : MI → Expr → Bool
  | .val m, e => okE c m e
  | .range es, .Call (.Name x _) args [] _ => (x == ("range" : Str)) && inL x c.bl && glB c.sc x && decide (1 ≤ args.length) && decide (args.length ≤ 3) && okEs c es args
  | .enum m, .Call (.Name x _) [a] [] _ => (x == ("enumerate" : Str)) && inL x c.bl && glB c.sc x && isTupE tg && okE c m a
  | .zip m n, .Call (.Name x _) [a, b] [] _ => (x == ("zip" : Str)) && inL x c.bl && glB c.sc x && isTupE tg && okE c m a && okE c n b
  | _, _ => false
/-- may it be a test -/
def tst : ME → Bool
  | .ite _ _ _ => false
  | .frz _ => false
  | .and a b => tst a && tst b
  | .or a b => tst a && tst b
  | .not a => tst a
  | _ => true
end
theorem okE_plain {c : Ck} : ∀ {m : ME} {e : Expr}, okE c m e = true → plainE e = true
  | .lit v, e, h => (Bool.and_eq_true_iff.mp (show (plainE e && litOk c v e) = true from h)).1
  | .prim p es, e, h => (Bool.and_eq_true_iff.mp (show (plainE e && _) = true from h)).1
  | .frz m, e, h => okE_plain (m := m) (show okE c m e = true from h)
  | .var i, e, h => by cases e <;> first | rfl | cases h
  | .and a b, e, h => by cases e <;> first | rfl | cases h
  | .or a b, e, h => by cases e <;> first | rfl | cases h
  | .not a, e, h => by cases e <;> first | rfl | cases h
  | .ite t a b, e, h => by cases e <;> first | rfl | cases h
  | .chain p q a b d, e, h => by cases e <;> first | rfl | cases h
  | .call f es kes sel, e, h => by cases e <;> first | rfl | cases h
  | .comp m own t i cs x, e, h => by cases e <;> first | rfl | cases h
  | .meth p o es, e, h => by cases e <;> first | rfl | cases h
end M
namespace M
open PySem PySem.Spec PyProof.Rows L2
structure PB (X : Cx) (cl : CallFn) (m : ME) (e : Expr) : Prop where
  pe : PE X e (tM X.K (evE cl m))
  pt : tst m = true → PT X e (tB X.K (evT cl m))
inductive PEs (X : Cx) (cl : CallFn) : List ME → List Expr → Prop where
  | nil : PEs X cl [] []
  | cons {m : ME} {e : Expr} {ms : List ME} {es : List Expr} : PE X e (tM X.K (evE cl m)) → plainE e = true → PEs X cl ms es → PEs X cl (m :: ms) (e :: es)
section
variable {X : Cx} {c : Ck} {k : Nat} {cl : CallFn}
theorem PEs.pa : ∀ {ms : List ME} {es : List Expr}, PEs X cl ms es → PA X es (tAs X.K (evEs cl ms))
  | _, _, .nil => pa_nilM
  | _, _, .cons h hp t => pa_consM h t.pa (star_plain hp)
theorem PEs.plain : ∀ {ms : List ME} {es : List Expr}, PEs X cl ms es → plainsE es = true
  | _, _, .nil => rfl
  | _, _, .cons (e := e) (es := es) h hp t => by show (plainE e && plainsE es) = true; rw [hp, t.plain]; rfl
theorem PEs.len : ∀ {ms : List ME} {es : List Expr}, PEs X cl ms es → ms.length = es.length
  | _, _, .nil => rfl
  | _, _, .cons h hp t => congrArg Nat.succ t.len
theorem PEs.one {ms : List ME} {e : Expr} (h : PEs X cl ms [e]) : ∃ m, ms = [m] ∧ PE X e (tM X.K (evE cl m)) ∧ plainE e = true := by
  cases h with
  | cons h hp t => cases t; exact ⟨_, rfl, h, hp⟩
theorem PEs.two {ms : List ME} {e f : Expr} (h : PEs X cl ms [e, f]) : ∃ m n, ms = [m, n] ∧ PE X e (tM X.K (evE cl m)) ∧ PE X f (tM X.K (evE cl n)) ∧ plainE e = true ∧ plainE f = true := by
  cases h with
  | cons h hp t =>
    obtain ⟨n, rfl, h2, hp2⟩ := t.one
    exact ⟨_, _, rfl, h, h2, hp, hp2⟩
theorem PEs.three {ms : List ME} {e f g : Expr} (h : PEs X cl ms [e, f, g]) : ∃ m n o, ms = [m, n, o] ∧ PE X e (tM X.K (evE cl m)) ∧ PE X f (tM X.K (evE cl n)) ∧ PE X g (tM X.K (evE cl o)) := by
  cases h with
  | cons h hp t =>
    obtain ⟨m, n, rfl, h2, h3, _, _⟩ := t.two
    exact ⟨_, _, _, rfl, h, h2, h3⟩
theorem ev1 (p : P) (a : ME) : evE cl (.prim p [a]) = fun ls h => (evE cl a ls h).bind fun v h => evP p [v] h := by
  funext ls h
  show (evEs cl [a] ls h).bind _ = _
  unfold evEs
  cases evE cl a ls h <;> rfl
theorem ev2 (p : P) (a b : ME) : evE cl (.prim p [a, b]) = fun ls h => (evE cl a ls h).bind fun v h => (evE cl b ls h).bind fun w h => evP p [v, w] h := by
  funext ls h
  show (evEs cl [a, b] ls h).bind _ = _
  unfold evEs
  cases evE cl a ls h with
  | ok v h1 =>
    simp only [bind_ok]
    unfold evEs
    cases evE cl b ls h1 <;> rfl
  | exc _ _ => rfl
  | stuck => rfl
theorem ev3 (p : P) (a b d : ME) : evE cl (.prim p [a, b, d]) = fun ls h => (evE cl a ls h).bind fun v h => (evE cl b ls h).bind fun w h => (evE cl d ls h).bind fun u h => evP p [v, w, u] h := by
  funext ls h
  show (evEs cl [a, b, d] ls h).bind _ = _
  unfold evEs
  cases evE cl a ls h with
  | ok v h1 =>
    simp only [bind_ok]
    unfold evEs
    cases evE cl b ls h1 with
    | ok w h2 =>
      simp only [bind_ok]
      unfold evEs
      cases evE cl d ls h2 <;> rfl
    | exc _ _ => rfl
    | stuck => rfl
  | exc _ _ => rfl
  | stuck => rfl
theorem evs1 (a : ME) : evEs cl [a] = fun ls h => (evE cl a ls h).bind fun v h => .ok [v] h := by
  funext ls h
  unfold evEs
  cases evE cl a ls h <;> rfl
theorem evs2 (a b : ME) : evEs cl [a, b] = fun ls h => (evE cl a ls h).bind fun v h => (evE cl b ls h).bind fun w h => .ok [v, w] h := by
  funext ls h
  unfold evEs
  cases evE cl a ls h with
  | ok v h1 =>
    simp only [bind_ok]
    unfold evEs
    cases evE cl b ls h1 <;> rfl
  | exc _ _ => rfl
  | stuck => rfl
/-- with a test that is the value's truth -/
theorem PB.of {m : ME} {e : Expr} (h : PE X e (tM X.K (evE cl m))) (ht : trueE e = true) : PB X cl m e := ⟨h, fun _ => pt_truthM h (true_plain ht)⟩
theorem tPart_M {f : Loc → Heap → Res Val} {σ : L2.St} {H : Hp} {R : Option Int → Hp → Prop} {g : Loc → Int → Heap → Res Val} {Q : VK} (q : tM X.K (fun ls h => (f ls h).bind fun v h => int1 v fun i => g ls i h) σ H Q)
    (kk : ∀ i S ls, S.K = X.K → Good S → LRel S ls σ → Post S (g ls i S.h) Q → R (some i) S.H) : tPart (tM X.K f) σ H R := by
  refine tM_bind (g := fun ls v h => int1 v fun i => g ls i h) q fun v x S ls hK g1 l r p => ?_
  obtain ⟨i, rfl, p⟩ := int1_of p
  cases r
  exact ⟨i, rfl, kk i S ls hK g1 l p⟩
theorem cmp_PB (F : CF X c k cl) {op : CmpOp} {p : P} {a b : ME} {l r : Expr} {pos : Pos} (h : cmpOf op = some p) (ha : PE X l (tM X.K (evE cl a))) (hb : PE X r (tM X.K (evE cl b))) (hp : plainE r = true) : PB X cl (.prim p [a, b]) (.Compare l [op] [r] pos) := by
  obtain ⟨⟨rr, ho, hr⟩, hbool⟩ := cmp_ok F.units h
  have w : ∀ σ H Q, tM X.K (evE cl (.prim p [a, b])) σ H Q → tOp rr (tM X.K (evE cl a)) (tM X.K (evE cl b)) σ H Q := fun σ H Q q => tOp_M hr (by rw [ev2] at q; exact q)
  refine ⟨PE.wk (pe_cmpR ho ha hb (mark_plain hp)) w, fun _ => PT.wk (pt_cmpR ho ha hb (mark_plain hp)) fun σ H Q q => tTest_M w (fun ls h h' v e => ?_) q⟩
  rw [ev2] at e
  simp only at e
  cases e1 : evE cl a ls h with
  | ok u h1 =>
    rw [e1] at e
    simp only [bind_ok] at e
    cases e2 : evE cl b ls h1 with
    | ok u2 h2 => rw [e2] at e; exact hbool _ _ _ _ _ e
    | exc _ _ => rw [e2] at e; cases e
    | stuck => rw [e2] at e; cases e
  | exc _ _ => rw [e1] at e; cases e
  | stuck => rw [e1] at e; cases e
theorem is_PB {op : CmpOp} {p : P} {a : ME} {l r : Expr} {pos : Pos} (h : isOf1 op r = some p) (ha : PE X l (tM X.K (evE cl a))) : PB X cl (.prim p [a]) (.Compare l [op] [r] pos) := by
  obtain ⟨⟨rr, y, ho, hc, hr⟩, hbool⟩ := is_ok (X := X) h
  have hm : behindInMarks op r = false := by
    unfold isOf1 at h
    split at h <;> first | rfl | cases h
  have w : ∀ σ H Q, tM X.K (evE cl (.prim p [a])) σ H Q → tOp rr (tM X.K (evE cl a)) (tC y) σ H Q := fun σ H Q q => tOpC_M hr (by rw [ev1] at q; exact q)
  refine ⟨PE.wk (pe_cmpR ho ha hc hm) w, fun _ => PT.wk (pt_cmpR ho ha hc hm) fun σ H Q q => tTest_M w (fun ls h h' v e => ?_) q⟩
  rw [ev1] at e
  simp only at e
  cases e1 : evE cl a ls h with
  | ok u h1 => rw [e1] at e; exact hbool _ _ _ _ e
  | exc _ _ => rw [e1] at e; cases e
  | stuck => rw [e1] at e; cases e
theorem str_eqb {x y : Str} (h : (x == y) = true) : x = y := eq_of_beq h
theorem isi_names : ∀ t, t < 6 → bootBuiltins (Str.ofString (tyName t)) = some (.type (tyName t)) ∧ Str.ofString (tyName t) ≠ ("__name__" : Str) ∧ (Str.ofString (tyName t) == ("__debug__" : Str)) = false := by decide +kernel
theorem call_PB (F : CF X c k cl) {p : P} {nm : Str} {ty : Bool} {id : String} {es : List ME} {args : List Expr} {q pos : Pos} (h : bltN p = some (nm, ty, id)) (hl : inL nm c.bl = true) (hg : glB c.sc nm = true) (hn : nmOk nm = true) (hne : args.isEmpty = false) (hes : PEs X cl es args) :
    PB X cl (.prim p es) (.Call (.Name nm q) args [] pos) := by
  obtain ⟨r, hr, ho⟩ := blt_ok F h
  obtain ⟨n1, _, n3⟩ := nmOk_ok hn
  refine .of ?_ rfl
  cases args with
  | nil => cases hne
  | cons e rest =>
    have hp' := Bool.and_eq_true_iff.mp (show (plainE e && plainsE rest) = true from hes.plain)
    rcases ho with ⟨_, ho, hb⟩ | ⟨_, ho, hb⟩
    · exact PE.wk (pe_callB ho (glB_ok F hg) (F.bl _ (inL_ok hl)) hb hes.pa n3 n1 (star_plain hp'.1) (backs_plain hp'.2)) fun σ H Q z => tCB_M hr z
    · exact PE.wk (pe_callTy ho (glB_ok F hg) (F.bl _ (inL_ok hl)) hb hes.pa n3 n1 (star_plain hp'.1) (backs_plain hp'.2)) fun σ H Q z => tCB_M hr z
theorem isi_PB (F : CF X c k cl) {t : Nat} {m : ME} {a : Expr} {q q2 pos : Pos} (ht : t < 6) (hl : inL ("isinstance" : Str) c.bl = true) (hg : glB c.sc ("isinstance" : Str) = true) (hl2 : inL (Str.ofString (tyName t)) c.bl = true) (hg2 : glB c.sc (Str.ofString (tyName t)) = true) (ha : PE X a (tM X.K (evE cl m))) (hp : plainE a = true) :
    PB X cl (.prim (.isi [t]) [m]) (.Call (.Name ("isinstance" : Str) q) [a, .Name (Str.ofString (tyName t)) q2] [] pos) := by
  obtain ⟨b1, b2, b3⟩ := isi_names t ht
  refine .of ?_ rfl
  have pn : PE X (.Name (Str.ofString (tyName t)) q2) (tC (.ty (tyName t))) := pe_bltn (glB_ok F hg2) (F.bl _ (inL_ok hl2)) b1 rfl b2 b3
  refine PE.wk (pe_callB call_isi (glB_ok F hg) (F.bl _ (inL_ok hl)) boot_isinstance (pa_cons ha (pa_cons pn pa_nil) (star_plain hp)) (by decide) (by decide) (star_plain hp) rfl) fun σ H Q z => ?_
  rw [ev1] at z
  refine tM_bind (g := fun ls v h => evP (.isi [t]) [v] h) z fun v x S ls hK g l r p => ?_
  exact pr_isi ht hK g r p
theorem int_first {S : RS} {w : Val} {r : Res Val} {g : Int → Int → Heap → Res Val} {Q : VK} (p : Post S (r.bind fun u h => int2 w u fun i j => g i j h) Q) : ∃ i, w = .int i ∧ Post S (r.bind fun u h => int1 u fun j => g i j h) Q := by
  cases r with
  | ok u h =>
    cases w with
    | int i =>
      refine ⟨i, rfl, ?_⟩
      cases u with
      | int j => exact p
      | _ => exact p.elim
    | _ => exact p.elim
  | exc _ _ => exact p.elim
  | stuck => exact p.elim
theorem sl_tt {fa fb fd : Loc → Heap → Res Val} {σ : L2.St} {H : Hp} {Q : VK} (q : tM X.K (fun ls h => (fa ls h).bind fun v h => (fb ls h).bind fun w h => (fd ls h).bind fun u h => evP (.sl true true) [v, w, u] h) σ H Q) :
    tSl (rSlAll X) (tM X.K fa) (tPart (tM X.K fb)) (tPart (tM X.K fd)) σ H Q := by
  refine tM_bind (g := fun ls v h => (fb ls h).bind fun w h => (fd ls h).bind fun u h => evP (.sl true true) [v, w, u] h) q fun v x S ls hK g l r p => ?_
  refine tG.mk hK g l (PostG.bind p fun w y S2 _ g2 e2 r2 p2 => ?_)
  obtain ⟨i, rfl, pq⟩ := int_first (g := fun i j h => slV h v (some i) (some j)) p2
  cases r2
  refine ⟨i, rfl, ?_⟩
  have hK2 := e2.K.trans hK
  refine tG.mk hK2 g2 (l.ext e2) (PostG.bind (g := fun u h => int1 u fun j => slV h v (some i) (some j)) pq fun u z S3 _ g3 e3 r3 p3 => ?_)
  obtain ⟨j, rfl, p3⟩ := int1_of p3
  cases r3
  exact ⟨j, rfl, slV_of (e3.K.trans hK2) g3 ((r.ext e2).ext e3) p3⟩
theorem sl_tf {fa fb : Loc → Heap → Res Val} {σ : L2.St} {H : Hp} {Q : VK} (q : tM X.K (fun ls h => (fa ls h).bind fun v h => (fb ls h).bind fun w h => evP (.sl true false) [v, w] h) σ H Q) :
    tSl (rSlAll X) (tM X.K fa) (tPart (tM X.K fb)) tNoPart σ H Q := by
  refine tM_bind (g := fun ls v h => (fb ls h).bind fun w h => evP (.sl true false) [v, w] h) q fun v x S ls hK g l r p => ?_
  refine tG.mk hK g l (PostG.bind p fun w y S2 _ g2 e2 r2 p2 => ?_)
  obtain ⟨i, rfl, p2⟩ := int1_of (f := fun i => slV S2.h v (some i) none) p2
  cases r2
  exact ⟨i, rfl, slV_of (e2.K.trans hK) g2 (r.ext e2) p2⟩
theorem sl_ft {fa fb : Loc → Heap → Res Val} {σ : L2.St} {H : Hp} {Q : VK} (q : tM X.K (fun ls h => (fa ls h).bind fun v h => (fb ls h).bind fun w h => evP (.sl false true) [v, w] h) σ H Q) :
    tSl (rSlAll X) (tM X.K fa) tNoPart (tPart (tM X.K fb)) σ H Q := by
  refine tM_bind (g := fun ls v h => (fb ls h).bind fun w h => evP (.sl false true) [v, w] h) q fun v x S ls hK g l r p => ?_
  refine tG.mk hK g l (PostG.bind p fun w y S2 _ g2 e2 r2 p2 => ?_)
  obtain ⟨i, rfl, p2⟩ := int1_of (f := fun i => slV S2.h v none (some i)) p2
  cases r2
  exact ⟨i, rfl, slV_of (e2.K.trans hK) g2 (r.ext e2) p2⟩
theorem sl_ff {fa : Loc → Heap → Res Val} {σ : L2.St} {H : Hp} {Q : VK} (q : tM X.K (fun ls h => (fa ls h).bind fun v h => evP (.sl false false) [v] h) σ H Q) :
    tSl (rSlAll X) (tM X.K fa) tNoPart tNoPart σ H Q := by
  refine tM_bind (g := fun ls v h => evP (.sl false false) [v] h) q fun v x S ls hK g l r p => ?_
  exact slV_of hK g r p
theorem prim_ok (F : CF X c k cl) {p : P} {es : List ME} {e : Expr} {xs : List Expr} (hv : primV c p e = some xs) (hes : PEs X cl es xs) : PB X cl (.prim p es) e := by
  unfold primV at hv
  split at hv
  · -- BinOp
    split at hv
    · rename_i hb
      cases hv
      obtain ⟨a, b, rfl, h1, h2, _, _⟩ := hes.two
      obtain ⟨r, ho, hr⟩ := bin_ok (X := X) hb
      exact .of (PE.wk (pe_op ho h1 h2) fun σ H Q q => tOp_M hr (by rw [ev2] at q; exact q)) rfl
    · cases hv
  · -- USub
    split at hv
    · rename_i hb
      cases hv
      subst hb
      obtain ⟨a, rfl, h1, _⟩ := hes.one
      refine .of (PE.wk (pe_un un_neg h1) fun σ H Q q => ?_) rfl
      rw [ev1] at q
      exact tUn_M (p := .neg) (fun S v x Q hK g r p => by
        obtain ⟨i, rfl, p⟩ := int1_of (f := fun i => .ok (.int (-i)) S.h) p
        cases r
        exact ⟨i, rfl, old_int g p⟩) q
    · cases hv
  · -- Compare
    split at hv
    · rename_i hb
      cases hv
      obtain ⟨a, b, rfl, h1, h2, _, p2⟩ := hes.two
      exact cmp_PB F hb h1 h2 p2
    · split at hv
      · rename_i hb
        cases hv
        obtain ⟨a, rfl, h1, _⟩ := hes.one
        exact is_PB hb h1
      · cases hv
  · -- Tuple
    split at hv
    · rename_i hb
      cases hv
      subst hb
      exact .of (PE.wk (pe_tup hes.pa) fun σ H Q q => tTup_M q) rfl
    · cases hv
  · -- List
    split at hv
    · cases hv
      exact .of (PE.wk (pe_lst hes.pa) fun σ H Q q => tLst_M q) rfl
    · cases hv
  · -- slices
    split at hv
    · cases hv
      obtain ⟨a, b, d, rfl, h1, h2, h3⟩ := hes.three
      exact .of (PE.wk (pe_slice sl_all h1 (po_some h2) (po_some h3)) fun σ H Q q => sl_tt (by rw [ev3] at q; exact q)) rfl
    · cases hv
      obtain ⟨a, b, rfl, h1, h2, _, _⟩ := hes.two
      exact .of (PE.wk (pe_slice sl_all h1 (po_some h2) po_none) fun σ H Q q => sl_tf (by rw [ev2] at q; exact q)) rfl
    · cases hv
      obtain ⟨a, b, rfl, h1, h2, _, _⟩ := hes.two
      exact .of (PE.wk (pe_slice sl_all h1 po_none (po_some h2)) fun σ H Q q => sl_ft (by rw [ev2] at q; exact q)) rfl
    · cases hv
      obtain ⟨a, rfl, h1, _⟩ := hes.one
      exact .of (PE.wk (pe_slice sl_all h1 po_none po_none) fun σ H Q q => sl_ff (by rw [ev1] at q; exact q)) rfl
    · cases hv
  · -- [::-1]
    split at hv
    · cases hv
      obtain ⟨a, rfl, h1, _⟩ := hes.one
      refine .of (PE.wk (pe_revG ((rv_list.or rv_str).or rv_tup) h1) fun σ H Q q => ?_) rfl
      rw [ev1] at q
      exact tUn_M p1_rev q
    · cases hv
  · -- subscript
    split at hv
    · rename_i hb
      cases hv
      subst hb
      obtain ⟨a, b, rfl, h1, h2, _, p2⟩ := hes.two
      exact .of (PE.wk (pe_ix ix_seq h1 h2 (ix_plain p2)) fun σ H Q q => tOp_M pr_ix (by rw [ev2] at q; exact q)) rfl
    · cases hv
  · -- calls
    split at hv
    · split at hv
      · rename_i hc
        cases hv
        simp only [Bool.and_eq_true, decide_eq_true_eq] at hc
        obtain ⟨⟨⟨⟨⟨⟨c1, c2⟩, c3⟩, c4⟩, c5⟩, c6⟩, c7⟩ := hc
        have e1 := str_eqb c1
        have e2 := str_eqb c2
        subst e1 e2
        obtain ⟨a, rfl, h1, p1⟩ := hes.one
        exact isi_PB F c7 c3 c5 c4 c6 h1 p1
      · cases hv
    · split at hv
      · rename_i hb
        split at hv
        · rename_i hc
          cases hv
          simp only [Bool.and_eq_true, Bool.not_eq_true'] at hc
          obtain ⟨⟨⟨⟨c1, c2⟩, c3⟩, c4⟩, c5⟩ := hc
          have e1 := str_eqb c1
          subst e1
          exact call_PB F hb c2 c3 c4 c5 hes
        · cases hv
      · cases hv
  · cases hv
end
end M
namespace M
open PySem PySem.Spec PyProof.Rows L2
def gsOf : List Nat → TGs
  | [] => gNil
  | i :: is => gCons (gName i) (gsOf is)
def gOf (K : PySem.W.Frag) : Tg → TG
  | .name i => gName i
  | .tup is => gTup K is.length (gsOf is)
section
variable {X : Cx} {c : Ck} {k : Nat} {cl : CallFn}
theorem gsOf_ok : ∀ is : List Nat, GsOk is (gsOf is)
  | [] => gsok_nil
  | _ :: is => gsok_cons (gsOf_ok is)
theorem gOf_ok {K : PySem.W.Frag} : ∀ t : Tg, GOk K t (gOf K t)
  | .name _ => gok_name
  | .tup is => gok_tup (gsOf_ok is)
theorem pgs_of (F : CF X c k cl) : ∀ {is : List Nat} {es : List Expr}, tgNames c is es = true → PGs X es (gsOf is)
  | [], [], _ => pgs_nil
  | [], _ :: _, h => by cases h
  | _ :: _, [], h => by cases h
  | i :: is, e :: es, h => by
    cases e with
    | Name x p =>
      have h' := Bool.and_eq_true_iff.mp (show ((_ && inL x c.st) && tgNames c is es) = true from h)
      have h'' := Bool.and_eq_true_iff.mp h'.1
      exact pgs_cons (pg_nameM F h''.1 h''.2) (pgs_of F h'.2)
    | _ => cases h
theorem pg_of (F : CF X c k cl) {t : Tg} {e : Expr} (h : okTg c t e = true) : PG X e (gOf X.K t) := by
  cases t with
  | name i =>
    cases e with
    | Name x p =>
      have h' := Bool.and_eq_true_iff.mp (show (_ && inL x c.st) = true from h)
      exact pg_nameM F h'.1 h'.2
    | _ => cases h
  | tup is =>
    cases e with
    | Tuple es n p =>
      have h : tgNames c is es = true := h
      obtain ⟨e1, e2⟩ := names_each (env := X.env) h
      exact pg_tup F.calm (pgs_of F h) e1 e2
    | _ => cases h
/-- within a comprehension -/
theorem cf_blk (F : CF X c k cl) {own : List Nat} {scope : Scope} (hb : blkC c.N c.sc scope (ownP c own) = true) (s : Shared) (H : Hp) (C : Addr) (cs : List (Str × Addr)) (fp : List Addr) :
    CF (X.blk s H scope (compEnvC scope cs C X.env) fp) (ckB c scope own) k cl := by
  have B := blkOk_by hb
  have hs : (X.blk s H scope (compEnvC scope cs C X.env) fp).env.scope = relS scope c.sc := by
    rw [← F.sc]; rfl
  refine ⟨F.hN, F.nd, hs, B.kind, F.calm, F.guards, F.room, fun x hx => ?_, F.bl, F.gl, F.fns⟩
  have hx2 := (List.mem_filter.mp hx).2
  rw [hs]
  unfold locB at hx2
  split at hx2
  · rename_i e
    have e2 := lookup_relS_keep (sc := c.sc) (k := .local) (fun z => nomatch z) e
    exact ⟨.inl e2, .inr e2⟩
  · rename_i e
    have e2 := lookup_relS_keep (sc := c.sc) (k := .cell) (fun z => nomatch z) e
    refine ⟨.inr e2, .inl ?_⟩
    show (scope.names.lookup x == some .cell) = true
    rw [e]
    rfl
  · cases hx2
theorem pk_of : ∀ {kes : List ME} {kws : List Keyword}, PEs X cl kes (kws.map fun k => k.value) → PK X kws (tAs X.K (evEs cl kes))
  | _, [], h => by cases h; exact pk_nilM
  | _, ⟨n, v, p⟩ :: kws, h => by
    cases h with
    | cons h1 _ t => exact pk_consM h1 (pk_of t)
theorem kwN_len : ∀ {kws : List Keyword}, kwsE kws = true → (kwN kws).length = kws.length
  | [], _ => rfl
  | ⟨n, v, p⟩ :: kws, h => by
    have h' := Bool.and_eq_true_iff.mp (show (n.isSome && kwsE kws) = true from h)
    cases n with
    | none => cases h'.1
    | some n =>
      show (n :: kwN kws).length = _
      rw [List.length_cons, kwN_len h'.2, List.length_cons]
theorem call_ok (F : CF X c k cl) {f : Nat} {es kes : List ME} {sel : List (Sum Nat Val)} {x : Str} {args : List Expr} {kws : List Keyword} {p pos : Pos} (h : callOk c f sel x args kws = true) (he : PEs X cl es args) (hk : PEs X cl kes (kws.map fun k => k.value)) :
    PE X (.Call (.Name x p) args kws pos) (tM X.K (evE cl (.call f es kes sel))) := by
  unfold callOk at h
  cases ef : c.fns[f]? with
  | none => rw [ef] at h; cases h
  | some fe =>
    rw [ef] at h
    simp only [Bool.and_eq_true, List.any_eq_true, decide_eq_true_eq] at h
    obtain ⟨⟨⟨⟨h1, h2⟩, h3⟩, h4⟩, sh, h5, ⟨h6, h7⟩, h8⟩ := h
    have e1 := eq_of_beq h1
    have e7 := strsSame_eq h7
    have e8 := selSame_eq h8
    subst e1 e8
    refine pe_callM F ef h5 h2 h3 he.plain h4 e7 h6.symm he.len ?_ he.pa (pk_of hk)
    rw [← e7, kwN_len h4]
    have := hk.len
    rwa [List.length_map] at this
theorem mth_PB {p : P} {nm : Str} {T : String} {o : ME} {es : List ME} {ob : Expr} {args : List Expr} {apos cpos : Pos} (h : mthN p = some (nm, T)) (hb : baseE ob = true) (hl : (apos.endLine == cpos.line) = true) (hn : args.length < 28) (ho : PE X ob (tM X.K (evE cl o))) (he : PEs X cl es args) :
    PE X (.Call (.Attribute ob nm apos) args [] cpos) (tM X.K (evE cl (.meth p o es))) := by
  obtain ⟨id, r, pa, sl, ty, hm, hp, ht⟩ := mth_ok (X := X) h
  cases args with
  | nil =>
    cases he
    exact PE.wk (pe_bm0 pa sl ty hm ho (base_plain hb) hl) fun σ H Q q => tBM0_M hp ht q
  | cons e rest =>
    have hp' := Bool.and_eq_true_iff.mp (show (plainE e && plainsE rest) = true from he.plain)
    refine PE.wk (pe_bm pa sl ty hm ho he.pa (base_plain hb) ?_ hl (star_plain hp'.1) (backs_plain hp'.2)) fun σ H Q q => tBM_M hp ht q
    rw [backs_all he.plain]
    show decide (_ + 0 + 0 < 30) = true
    exact decide_eq_true (by omega)
theorem frz_M {f : Loc → Heap → Res Val} {σ : L2.St} {H : Hp} {Q : VK} (q : tM X.K (fun ls h => (f ls h).bind fun v h => frzV v h) σ H Q) : tM X.K f σ H Q := by
  refine tM_bind (g := fun _ v h => frzV v h) q fun v x S ls hK g l r p => ?_
  cases v with
  | ref n =>
    unfold frzV at p
    simp only at p
    cases e : S.h[n]? with
    | none => rw [e] at p; exact p.elim
    | some o =>
      rw [e] at p
      cases o with
      | list xs =>
        obtain ⟨a, ys, rfl, ha, hH, rz⟩ := ref_lst g r e
        exact p (S.frz n) (.ref a) rfl (good_frz g) ext_frz ⟨a, ys, rfl, ⟨hH, not_live_frz g ha⟩, rz.ext ext_frz⟩
      | dead => exact p.elim
      | dict ks vs =>
        obtain ⟨a, h1, _⟩ := r
        exact (g.obj n _ a e h1).elim
      | inst _ _ _ =>
        obtain ⟨a, h1, _⟩ := r
        exact (g.obj n _ a e h1).elim
  | _ => exact old_val g r p
theorem lit_ok (F : CF X c k cl) {v : Val} {e : Expr} (h : litOk c v e = true) : PE X e (tM X.K (evE cl (.lit v))) ∧ trueE e = true := by
  unfold litOk at h
  split at h
  · split at h
    · rename_i e1
      rw [same_eq h]
      exact ⟨pe_litM e1, rfl⟩
    · cases h
  · simp only [Bool.and_eq_true, List.any_eq_true] at h
    obtain ⟨⟨h1, h2⟩, q, h3, h4, h5⟩ := h
    have e1 := eq_of_beq h4
    have e2 := same_eq h5
    obtain ⟨x0, v0⟩ := q
    simp only at e1 e2
    subst e1 e2
    exact ⟨pe_glbM F h3 h1 h2, rfl⟩
  · rw [same_eq h]
    exact ⟨pe_dict0, rfl⟩
  · split at h
    · rename_i e1 e2
      rw [same_eq h]
      exact ⟨pe_dict1 e1 e2, rfl⟩
    · cases h
  · cases h
/-! ### tests -/
theorem bool_pw {op : BoolOp} {vs : List Expr} {pos : Pos} {t : TT} (h : PT X (.BoolOp op vs pos) t) : PW X (.BoolOp op vs pos) t := ⟨fun wh pins s σ H Q I q => h.run pins s σ H Q I q⟩
theorem evT_and (a b : ME) : evT cl (.and a b) = fun ls h => (evT cl a ls h).bind fun t h => if t then evT cl b ls h else .ok false h := by
  funext ls h
  show ((evE cl a ls h).bind _).bind truthR = ((evE cl a ls h).bind truthR).bind _
  cases evE cl a ls h with
  | ok v h1 =>
    simp only [bind_ok]
    unfold truthR
    cases e : truth h1 v with
    | none => rfl
    | some t =>
      cases t with
      | true => rfl
      | false =>
        simp only [bind_ok, Bool.false_eq_true, if_false]
        rw [e]
  | exc _ _ => rfl
  | stuck => rfl
theorem evT_or (a b : ME) : evT cl (.or a b) = fun ls h => (evT cl a ls h).bind fun t h => if t then .ok true h else evT cl b ls h := by
  funext ls h
  show ((evE cl a ls h).bind _).bind truthR = ((evE cl a ls h).bind truthR).bind _
  cases evE cl a ls h with
  | ok v h1 =>
    simp only [bind_ok]
    unfold truthR
    cases e : truth h1 v with
    | none => rfl
    | some t =>
      cases t with
      | false => rfl
      | true =>
        simp only [bind_ok, if_true]
        rw [e]
  | exc _ _ => rfl
  | stuck => rfl
theorem evT_not (a : ME) : evT cl (.not a) = fun ls h => (evT cl a ls h).bind fun t h => .ok (!t) h := by
  funext ls h
  show ((evE cl a ls h).bind _).bind truthR = ((evE cl a ls h).bind truthR).bind _
  cases evE cl a ls h with
  | ok v h1 =>
    simp only [bind_ok]
    unfold truthR
    cases e : truth h1 v with
    | none => rfl
    | some t => rfl
  | exc _ _ => rfl
  | stuck => rfl
theorem and_PB {a b : ME} {x y : Expr} {rest : List Expr} {pos : Pos} (ha : PB X cl a x) (hb : if rest.isEmpty then PB X cl b y else PB X cl b (.BoolOp .And (y :: rest) pos)) : PB X cl (.and a b) (.BoolOp .And (x :: y :: rest) pos) := by
  have h2 : PE X (.BoolOp .And (y :: rest) pos) (tM X.K (evE cl b)) ∧ (tst b = true → PW X (.BoolOp .And (y :: rest) pos) (tB X.K (evT cl b))) := by
    cases rest with
    | nil => exact ⟨pe_one hb.pe, fun t => pw_and1 (hb.pt t)⟩
    | cons _ _ => exact ⟨hb.pe, fun t => bool_pw (hb.pt t)⟩
  refine ⟨PE.wk (pe_andT ha.pe h2.1) fun σ H Q q => tAndT_M q, fun t => ?_⟩
  have t' := Bool.and_eq_true_iff.mp (show (tst a && tst b) = true from t)
  refine PT.wk (pw_and (ha.pt t'.1) (h2.2 t'.2)).pt fun σ H Q q => ?_
  rw [evT_and] at q
  exact tAnd_M q
theorem or_PB {a b : ME} {x y : Expr} {rest : List Expr} {pos : Pos} (ha : PB X cl a x) (hb : if rest.isEmpty then PB X cl b y else PB X cl b (.BoolOp .Or (y :: rest) pos)) : PB X cl (.or a b) (.BoolOp .Or (x :: y :: rest) pos) := by
  have h2 : PE X (.BoolOp .Or (y :: rest) pos) (tM X.K (evE cl b)) ∧ (tst b = true → PW X (.BoolOp .Or (y :: rest) pos) (tB X.K (evT cl b))) := by
    cases rest with
    | nil => exact ⟨pe_one hb.pe, fun t => pw_or1 (hb.pt t)⟩
    | cons _ _ => exact ⟨hb.pe, fun t => bool_pw (hb.pt t)⟩
  refine ⟨PE.wk (pe_orT ha.pe h2.1) fun σ H Q q => tOrT_M q, fun t => ?_⟩
  have t' := Bool.and_eq_true_iff.mp (show (tst a && tst b) = true from t)
  refine PT.wk (pw_or (ha.pt t'.1) (h2.2 t'.2)).pt fun σ H Q q => ?_
  rw [evT_or] at q
  exact tOr_M q
theorem not_PB {a : ME} {x : Expr} {pos : Pos} (ha : PB X cl a x) : PB X cl (.not a) (.UnaryOp .Not x pos) := by
  refine ⟨PE.wk (pe_notT ha.pe) fun σ H Q q => tNotT_M q, fun t => ?_⟩
  refine PT.wk (pt_not (ha.pt t)) fun σ H Q q => ?_
  rw [evT_not] at q
  exact tNot_M q
theorem evT_if (t a b : ME) : evE cl (.ite t a b) = fun ls h => (evT cl t ls h).bind fun d h => if d then evE cl a ls h else evE cl b ls h := by
  funext ls h
  show (evE cl t ls h).bind _ = ((evE cl t ls h).bind truthR).bind _
  cases evE cl t ls h with
  | ok v h1 => rfl
  | exc _ _ => rfl
  | stuck => rfl
theorem ite_PB {t a b : ME} {x y z : Expr} {pos : Pos} (ht : PT X x (tB X.K (evT cl t))) (ha : PB X cl a y) (hb : PB X cl b z) : PB X cl (.ite t a b) (.IfExp x y z pos) := by
  refine ⟨PE.wk (pe_ifExp ht ha.pe hb.pe) fun σ H Q q => ?_, fun t => by cases t⟩
  rw [evT_if] at q
  exact tIf_M q
theorem chain_PB (F : CF X c k cl) {p q : P} {o1 o2 : CmpOp} {a b d : ME} {x y z : Expr} {pos : Pos} (hp : cmpOf o1 = some p) (hq : cmpOf o2 = some q) (ha : PB X cl a x) (hb : PB X cl b y) (hd : PB X cl d z) (hz : plainE z = true) :
    PB X cl (.chain p q a b d) (.Compare x [o1, o2] [y, z] pos) := by
  obtain ⟨⟨r1, h1, h2⟩, b1⟩ := cmp_ok F.units hp
  obtain ⟨⟨r2, h3, h4⟩, b2⟩ := cmp_ok F.units hq
  have bp : boolP p := fun vs h h' v e => by
    match vs, e with
    | [v1, v2], e => exact b1 v1 v2 h h' v e
    | [], e => cases o1 <;> cases hp <;> cases e
    | [_], e => cases o1 <;> cases hp <;> cases e
    | _ :: _ :: _ :: _, e => cases o1 <;> cases hp <;> cases e
  have hm : lastMarks [o1, o2] [y, z] = false := by
    show behindInMarks o2 z = false
    exact mark_plain hz
  have w : ∀ σ H Q, tM X.K (evE cl (.chain p q a b d)) σ H Q → tChain r1 r2 (tM X.K (evE cl a)) (tM X.K (evE cl b)) (tM X.K (evE cl d)) σ H Q := fun σ H Q z => tChain_M h2 h4 bp z
  refine ⟨PE.wk (pe_chain h1 h3 ha.pe hb.pe hd.pe hm) w, fun _ => PT.wk (pt_chain h1 h3 ha.pe hb.pe hd.pe hm) fun σ H Q z => tTest_M w (fun ls h h' v e => ?_) z⟩
  have e : ((evE cl a ls h).bind fun x h => (evE cl b ls h).bind fun y h => (evP p [x, y] h).bind fun (v : Val) h => (match v with
    | .bool true => (evE cl d ls h).bind fun z h => evP q [y, z] h
    | .bool false => .ok (.bool false) h
    | _ => .stuck)) = .ok v h' := e
  cases e1 : evE cl a ls h with
  | ok u1 h1 =>
    rw [e1] at e
    simp only [bind_ok] at e
    cases e2 : evE cl b ls h1 with
    | ok u2 h2 =>
      rw [e2] at e
      simp only [bind_ok] at e
      cases e3 : evP p [u1, u2] h2 with
      | ok u3 h3 =>
        rw [e3] at e
        simp only [bind_ok] at e
        obtain ⟨bb, rfl⟩ := b1 _ _ _ _ _ e3
        cases bb with
        | false => cases e; exact ⟨false, rfl⟩
        | true =>
          simp only at e
          cases e4 : evE cl d ls h3 with
          | ok u4 h4 => rw [e4] at e; exact b2 _ _ _ _ _ e
          | exc _ _ => rw [e4] at e; cases e
          | stuck => rw [e4] at e; cases e
      | exc _ _ => rw [e3] at e; cases e
      | stuck => rw [e3] at e; cases e
    | exc _ _ => rw [e2] at e; cases e
    | stuck => rw [e2] at e; cases e
  | exc _ _ => rw [e1] at e; cases e
  | stuck => rw [e1] at e; cases e
end
end M
namespace M
open PySem PySem.Spec PyProof.Rows L2
variable {k : Nat} {cl : CallFn}
theorem ownP_snd (c : Ck) (own : List Nat) : (ownP c own).map (·.2) = own := by
  unfold ownP
  rw [List.map_map]
  show own.map (fun i => i) = own
  simp
theorem evC1 (m : ME) : evC cl [m] = evT cl m := by
  funext ls h
  show (evE cl m ls h).bind _ = (evE cl m ls h).bind truthR
  cases evE cl m ls h with
  | ok v h1 =>
    simp only [bind_ok]
    unfold truthR
    cases truth h1 v with
    | none => rfl
    | some t => cases t <;> rfl
  | exc _ _ => rfl
  | stuck => rfl
theorem evs_len : ∀ {es : List ME} {ls : Loc} {h h' : Heap} {vs : List Val}, evEs cl es ls h = .ok vs h' → vs.length = es.length
  | [], _, _, _, _, e => by cases e; rfl
  | m :: r, ls, h, h', vs, e => by
    unfold evEs at e
    cases e1 : evE cl m ls h with
    | ok v h1 =>
      rw [e1] at e
      simp only [bind_ok] at e
      cases e2 : evEs cl r ls h1 with
      | ok ws h2 => rw [e2] at e; cases e; rw [List.length_cons, evs_len e2, List.length_cons]
      | exc _ _ => rw [e2] at e; cases e
      | stuck => rw [e2] at e; cases e
    | exc _ _ => rw [e1] at e; cases e
    | stuck => rw [e1] at e; cases e
mutual
theorem ok_E : ∀ (m : ME) {X : Cx} {c : Ck} {e : Expr}, CF X c k cl → okE c m e = true → PB X cl m e
  | .lit v, X, c, e, F, h => by
    have h' := Bool.and_eq_true_iff.mp (show (plainE e && litOk c v e) = true from h)
    obtain ⟨h1, h2⟩ := lit_ok F h'.2
    exact .of h1 h2
  | .var i, X, c, e, F, h => by
    cases e with
    | Name x p =>
      have h' := Bool.and_eq_true_iff.mp (show ((_ && visB c.sc x) && nmOk x) = true from h)
      have h'' := Bool.and_eq_true_iff.mp h'.1
      exact .of (pe_varM F (nm_at h''.1) h''.2 h'.2) rfl
    | _ => cases h
  | .prim p es, X, c, e, F, h => by
    have h' := Bool.and_eq_true_iff.mp (show (plainE e && (match primV c p e with
      | some xs => okEs c es xs
      | none => false)) = true from h)
    cases hv : primV c p e with
    | none => rw [hv] at h'; cases h'.2
    | some xs =>
      rw [hv] at h'
      exact prim_ok F hv (ok_Es es F h'.2)
  | .and a b, X, c, e, F, h => by
    cases e with
    | BoolOp op vs pos =>
      cases op with
      | Or => cases vs with
        | nil => cases h
        | cons x vs => cases vs <;> cases h
      | And =>
        cases vs with
        | nil => cases h
        | cons x vs =>
          cases vs with
          | nil => cases h
          | cons y rest =>
            have h' := Bool.and_eq_true_iff.mp (show (okE c a x && (if rest.isEmpty then okE c b y else okE c b (.BoolOp .And (y :: rest) pos))) = true from h)
            refine and_PB (ok_E a F h'.1) ?_
            cases rest with
            | nil => exact ok_E b F h'.2
            | cons z rest => exact ok_E b F h'.2
    | _ => cases h
  | .or a b, X, c, e, F, h => by
    cases e with
    | BoolOp op vs pos =>
      cases op with
      | And => cases vs with
        | nil => cases h
        | cons x vs => cases vs <;> cases h
      | Or =>
        cases vs with
        | nil => cases h
        | cons x vs =>
          cases vs with
          | nil => cases h
          | cons y rest =>
            have h' := Bool.and_eq_true_iff.mp (show (okE c a x && (if rest.isEmpty then okE c b y else okE c b (.BoolOp .Or (y :: rest) pos))) = true from h)
            refine or_PB (ok_E a F h'.1) ?_
            cases rest with
            | nil => exact ok_E b F h'.2
            | cons z rest => exact ok_E b F h'.2
    | _ => cases h
  | .not a, X, c, e, F, h => by
    cases e with
    | UnaryOp op x pos => cases op <;> first | exact not_PB (ok_E a F h) | cases h
    | _ => cases h
  | .ite t a b, X, c, e, F, h => by
    cases e with
    | IfExp x y z pos =>
      have h1 := Bool.and_eq_true_iff.mp (show (((okE c t x && tst t) && okE c a y) && okE c b z) = true from h)
      have h2 := Bool.and_eq_true_iff.mp h1.1
      have h3 := Bool.and_eq_true_iff.mp h2.1
      exact ite_PB ((ok_E t F h3.1).pt h3.2) (ok_E a F h2.2) (ok_E b F h1.2)
    | _ => cases h
  | .chain p q a b d, X, c, e, F, h => by
    cases e with
    | Compare x ops ys pos =>
      match ops, ys, h with
      | [o1, o2], [y, z], h =>
        have h1 := Bool.and_eq_true_iff.mp (show (((((cmpOf o1 == some p) && (cmpOf o2 == some q)) && okE c a x) && okE c b y) && okE c d z) = true from h)
        have h2 := Bool.and_eq_true_iff.mp h1.1
        have h3 := Bool.and_eq_true_iff.mp h2.1
        have h4 := Bool.and_eq_true_iff.mp h3.1
        exact chain_PB F (eq_of_beq h4.1) (eq_of_beq h4.2) (ok_E a F h3.2) (ok_E b F h2.2) (ok_E d F h1.2) (okE_plain h1.2)
      | [], _, h => cases h
      | [_], _, h => cases h
      | _ :: _ :: _ :: _, _, h => cases h
      | [_, _], [], h => cases h
      | [_, _], [_], h => cases h
      | [_, _], _ :: _ :: _ :: _, h => cases h
    | _ => cases h
  | .call f es kes sel, X, c, e, F, h => by
    cases e with
    | Call fn args kws pos =>
      cases fn with
      | Name x p =>
        have h1 := Bool.and_eq_true_iff.mp (show ((callOk c f sel x args kws && okEs c es args) && okEs c kes (kws.map fun k => k.value)) = true from h)
        have h2 := Bool.and_eq_true_iff.mp h1.1
        exact .of (call_ok F h2.1 (ok_Es es F h2.2) (ok_Es kes F h1.2)) rfl
      | _ => cases h
    | _ => cases h
  | .comp m own t i cs el, X, c, e, F, h => by
    cases e with
    | ListComp elt gens scope pos =>
      have h : (match gen1 gens with
        | some (tg, iter, ifs) => plainE iter && compOk c own t scope tg && okI c tg i iter && okEs (ckB c scope own) cs ifs && decide (ifs.length ≤ 1) && (cs.all tst) && okE (ckB c scope own) el elt
        | none => false) = true := h
      cases hg : gen1 gens with
      | none => rw [hg] at h; cases h
      | some q =>
        obtain ⟨tg, iter, ifs⟩ := q
        rw [hg] at h
        have eg := gen1_ok hg
        subst eg
        have h1 := Bool.and_eq_true_iff.mp (show ((((((plainE iter && compOk c own t scope tg) && okI c tg i iter) && okEs (ckB c scope own) cs ifs) && decide (ifs.length ≤ 1)) && (cs.all tst)) && okE (ckB c scope own) el elt) = true from h)
        have h2 := Bool.and_eq_true_iff.mp h1.1
        have h3 := Bool.and_eq_true_iff.mp h2.1
        have h4 := Bool.and_eq_true_iff.mp h3.1
        have h5 := Bool.and_eq_true_iff.mp h4.1
        have h6 := Bool.and_eq_true_iff.mp h5.1
        have h7 := Bool.and_eq_true_iff.mp (show ((blkC c.N c.sc scope (ownP c own) && (t.slots.all fun i => own.contains i)) && okTg (ckB c scope own) t tg) = true from h6.2)
        have h8 := Bool.and_eq_true_iff.mp h7.1
        refine .of (PE.wk (pe_lc (own := ownP c own) (wi := tI X.K (evI cl i)) (g := gOf X.K t) (tt := tB X.K (evC cl cs)) (te := tM X.K (evE cl el)) F.calm (by rw [F.hN]; exact F.nd) (ok_I i F h5.2) (by rw [F.hN, F.sc]; exact blkOk_by h8.1) (fun s H C cs' fp => pg_of (cf_blk F h8.1 s H C cs' fp) h7.2)
          (fun s H C cs' fp => ok_Cs cs (cf_blk F h8.1 s H C cs' fp) h4.2 (of_decide_eq_true h3.2) h2.2) (fun s H C cs' fp => (ok_E el (cf_blk F h8.1 s H C cs' fp) h1.2).pe) (fold_plain h6.1)) fun σ H Q q => ?_) rfl
        rw [ownP_snd]
        refine lc_M (gOf_ok t) (fun j hj => ?_) q
        have hc := (List.all_eq_true.mp h8.2) j hj
        exact List.contains_iff_mem.mp hc
    | _ => cases h
  | .frz m, X, c, e, F, h => by
    refine ⟨PE.wk (ok_E m F (show okE c m e = true from h)).pe fun σ H Q q => frz_M q, fun t => by cases t⟩
  | .meth p o es, X, c, e, F, h => by
    cases e with
    | Call fn args kws cpos =>
      cases fn with
      | Attribute ob nm apos =>
        cases kws with
        | cons _ _ => cases h
        | nil =>
          have h1 := Bool.and_eq_true_iff.mp (show ((((((match mthN p with
            | some (n, _) => n == nm
            | none => false) && baseE ob) && (apos.endLine == cpos.line)) && decide (args.length < 28)) && okE c o ob) && okEs c es args) = true from h)
          have h2 := Bool.and_eq_true_iff.mp h1.1
          have h3 := Bool.and_eq_true_iff.mp h2.1
          have h4 := Bool.and_eq_true_iff.mp h3.1
          have h5 := Bool.and_eq_true_iff.mp h4.1
          cases hm : mthN p with
          | none => rw [hm] at h5; cases h5.1
          | some q =>
            obtain ⟨n, T⟩ := q
            rw [hm] at h5
            have en := eq_of_beq (show (n == nm) = true from h5.1)
            subst en
            exact .of (mth_PB hm h5.2 h4.2 (of_decide_eq_true h3.2) (ok_E o F h2.2).pe (ok_Es es F h1.2)) rfl
      | _ => cases h
    | _ => cases h
theorem ok_Es : ∀ (ms : List ME) {X : Cx} {c : Ck} {es : List Expr}, CF X c k cl → okEs c ms es = true → PEs X cl ms es
  | [], X, c, es, F, h => by
    cases es with
    | nil => exact .nil
    | cons _ _ => cases h
  | m :: ms, X, c, es, F, h => by
    cases es with
    | nil => cases h
    | cons e es =>
      have h' := Bool.and_eq_true_iff.mp (show (okE c m e && okEs c ms es) = true from h)
      exact .cons (ok_E m F h'.1).pe (okE_plain h'.1) (ok_Es ms F h'.2)
theorem ok_Cs : ∀ (ms : List ME) {X : Cx} {c : Ck} {es : List Expr}, CF X c k cl → okEs c ms es = true → es.length ≤ 1 → ms.all tst = true → PTs X es (tB X.K (evC cl ms))
  | [], X, c, es, F, h, _, _ => by
    cases es with
    | nil =>
      refine ⟨fun pins s σ H Q I q => pts_nil.run pins s σ H Q I ?_⟩
      obtain ⟨S, ls, hK, hH, g, l, p⟩ := q
      subst hH
      exact PostG.here p g rfl
    | cons _ _ => cases h
  | m :: ms, X, c, es, F, h, hl, ht => by
    cases es with
    | nil => cases h
    | cons e es =>
      cases es with
      | cons _ _ => exact absurd hl (by simp)
      | nil =>
        have h' := Bool.and_eq_true_iff.mp (show (okE c m e && okEs c ms []) = true from h)
        cases ms with
        | cons _ _ => cases h'.2
        | nil =>
          have t := (Bool.and_eq_true_iff.mp (show (tst m && [].all tst) = true from ht)).1
          have q := pts_one ((ok_E m F h'.1).pt t)
          rw [evC1]
          exact q
theorem ok_I : ∀ (i : MI) {X : Cx} {c : Ck} {tg e : Expr}, CF X c k cl → okI c tg i e = true → PI X tg e (tI X.K (evI cl i))
  | .val m, X, c, tg, e, F, h => pi_valM (ok_E m F (show okE c m e = true from h)).pe
  | .range es, X, c, tg, e, F, h => by
    cases e with
    | Call fn args kws pos =>
      cases fn with
      | Name x p =>
        cases kws with
        | cons _ _ => cases h
        | nil =>
          have h1 := Bool.and_eq_true_iff.mp (show ((((((x == ("range" : Str)) && inL x c.bl) && glB c.sc x) && decide (1 ≤ args.length)) && decide (args.length ≤ 3)) && okEs c es args) = true from h)
          have h2 := Bool.and_eq_true_iff.mp h1.1
          have h3 := Bool.and_eq_true_iff.mp h2.1
          have h4 := Bool.and_eq_true_iff.mp h3.1
          have h5 := Bool.and_eq_true_iff.mp h4.1
          have ex := eq_of_beq h5.1
          subst ex
          have hes := ok_Es es F h1.2
          exact pi_rng (glB_ok F h4.2) (F.bl _ (inL_ok h5.2)) hes.plain (of_decide_eq_true h3.2) (of_decide_eq_true h2.2) hes.pa (fun ls h h' vs e => by rw [evs_len e, hes.len])
      | _ => cases h
    | _ => cases h
  | .enum m, X, c, tg, e, F, h => by
    cases e with
    | Call fn args kws pos =>
      cases fn with
      | Name x p =>
        match args, kws, h with
        | [a], [], h =>
          have h1 := Bool.and_eq_true_iff.mp (show (((((x == ("enumerate" : Str)) && inL x c.bl) && glB c.sc x) && isTupE tg) && okE c m a) = true from h)
          have h2 := Bool.and_eq_true_iff.mp h1.1
          have h3 := Bool.and_eq_true_iff.mp h2.1
          have h4 := Bool.and_eq_true_iff.mp h3.1
          have ex := eq_of_beq h4.1
          subst ex
          have hm := (ok_E m F h1.2).pe
          have hp := okE_plain h1.2
          exact pi_enumM (glB_ok F h3.2) (F.bl _ (inL_ok h4.2)) h2.2 hp (PEs.cons hm hp .nil).pa (fun ls h => by rw [evs1])
        | [], _, h => cases h
        | _ :: _ :: _, _, h => cases h
        | [_], _ :: _, h => cases h
      | _ => cases h
    | _ => cases h
  | .zip m n, X, c, tg, e, F, h => by
    cases e with
    | Call fn args kws pos =>
      cases fn with
      | Name x p =>
        match args, kws, h with
        | [a, b], [], h =>
          have h1 := Bool.and_eq_true_iff.mp (show ((((((x == ("zip" : Str)) && inL x c.bl) && glB c.sc x) && isTupE tg) && okE c m a) && okE c n b) = true from h)
          have h2 := Bool.and_eq_true_iff.mp h1.1
          have h3 := Bool.and_eq_true_iff.mp h2.1
          have h4 := Bool.and_eq_true_iff.mp h3.1
          have h5 := Bool.and_eq_true_iff.mp h4.1
          have ex := eq_of_beq h5.1
          subst ex
          have hm := (ok_E m F h2.2).pe
          have hn := (ok_E n F h1.2).pe
          have hp := okE_plain h2.2
          have hp2 := okE_plain h1.2
          exact pi_zipM (glB_ok F h4.2) (F.bl _ (inL_ok h5.2)) h3.2 hp hp2 (PEs.cons hm hp (.cons hn hp2 .nil)).pa (fun ls h => by rw [evs2])
        | [], _, h => cases h
        | [_], _, h => cases h
        | _ :: _ :: _ :: _, _, h => cases h
        | [_, _], _ :: _, h => cases h
      | _ => cases h
    | _ => cases h
end
end M
namespace M
open PySem PySem.Spec PyProof.Rows L2
/-! ### the checker of statements -/
def isTupV : Expr → Bool
  | .Tuple .. => true
  | _ => false
def isComp : ME → Bool
  | .comp .. => true
  | _ => false
def localB (sc : Scope) (x : Str) : Bool := decide (sc.names.lookup x = some .local)
def notStar : Expr → Bool
  | .Starred .. => false
  | _ => true
/-- the stores of a written pair, triple go one by one -/
def parV (vs : List Expr) : Bool := vs.all notStar && !(vs.all (foldedForSure 8)) && !(vs.all (constantsAlone 8))
def okPar (c : Ck) (is : List Nat) (es : List ME) (tgs : List Expr) (e : Expr) : Bool := match is, es, tgs, e with
  | [i, j], [a, b], [.Tuple [.Name x px, .Name y py] _ _], .Tuple [ea, eb] _ _ => okTg c (.name i) (.Name x px) && okTg c (.name j) (.Name y py) && localB c.sc x && localB c.sc y && !(i == j) && !(x == y) && (py.line == px.line) && parV [ea, eb] && okEs c [a, b] [ea, eb]
  | [i, j, l], [a, b, d], [.Tuple [.Name x px, .Name y py, .Name z pz] _ _], .Tuple [ea, eb, ed] _ _ => okTg c (.name i) (.Name x px) && okTg c (.name j) (.Name y py) && okTg c (.name l) (.Name z pz) && localB c.sc x && localB c.sc y && localB c.sc z && !(i == j) && !(i == l) && !(j == l) && !(x == y) && !(x == z) && !(y == z) && (py.line == px.line) && (pz.line == px.line) && parV [ea, eb, ed] && okEs c [a, b, d] [ea, eb, ed]
  | _, _, _, _ => false
def okAsg2 (c : Ck) (i j : Nat) (m : ME) (tgs : List Expr) (e : Expr) : Bool := match tgs with
  | [tg, tg2] => okTg c (.name i) tg && okTg c (.name j) tg2 && okE c m e
  | _ => false
/-- a written tuple that goes to its targets as a tuple -/
def noSwap (c : Ck) : Expr → Expr → Bool
  | .Tuple ts _ _, .Tuple vs _ _ => !(ts.length == 2 || ts.length == 3) || vs.length != ts.length || ts.any fun t => match t with
    | .Name x _ => !(localB c.sc x)
    | _ => true
  | _, _ => false
mutual
def okS (c : Ck) : MS → Stmt → Bool
  | .asg [.name i] m, .Assign [tg] e _ => okTg c (.name i) tg && okE c m e && (!(compE e) || isComp m)
  | .asg [.tup is] m, .Assign [tg] e _ => okTg c (.tup is) tg && okE c m e && (!(isTupV e) || noSwap c tg e)
  | .asg [.ix a i] m, .Assign [.Subscript o j _] e _ => okE c a o && okE c i j && okE c m e
  | .par is es, .Assign tgs e _ => okPar c is es tgs e
  | .asg2 i j m, .Assign tgs e _ => okAsg2 c i j m tgs e
  | .aug i p m, .AugAssign (.Name x _) op e _ => (binOf op == some p) && (p == .add || p == .sub) && okTg c (.name i) (.Name x ⟨0, 0, 0, 0⟩) && okE c m e
  | .expr m, .Expr e _ => okE c m e && !(compE e)
  | .ite t a b, .If e x y _ => okE c t e && tst t && okB c a x && okB c b y
  | .wh t b, .While e y [] _ => okE c t e && tst t && okB c b y
  | .for t i b, .For tg it y [] _ => okTg c t tg && plainE it && okI c tg i it && okB c b y
  | .ret m, .Return (some e) _ => okE c m e
  | .ret (.lit .none), .Return none _ => true
  | .brk, .Break _ => true
  | _, _ => false
def okB (c : Ck) : List MS → List Stmt → Bool
  | .kill _ :: r, ss => okB c r ss
  | s :: r, st :: ss => okS c s st && okB c r ss
  | [], [] => true
  | _, _ => false
end
/-! ### op= -/
def ipA : TIp := fun x y H Q => (∃ i j, x = .int i ∧ y = .int j ∧ Q (.int (i + j)) H) ∨ ∃ i j, x = .str i ∧ y = .str j ∧ i.length + j.length ≤ sizeLine ∧ Q (.str (i ++ j)) H
section
variable {X : Cx} {c : Ck} {k : Nat} {cl : CallFn}
theorem ip_addA : PIp X .Add ipA := fun pins s σ H x y v u Q I rx ry h => h.elim (ip_add pins s σ H x y v u Q I rx ry) (iop_add_str pins s σ H x y v u Q I rx ry)
theorem aug_M {i : Nat} {p : P} {ti : TIp} {f : Loc → Heap → Res Val} {D : Ends} {σ : L2.St} {H : Hp} (hp : ∀ (S : RS) (v w : Val) (x y : V) (Q : VK), S.K = X.K → Good S → Rel S v x → Rel S w y → Post S (augV p v w S.h) Q → ti x y S.H Q)
    (q : tS X.K (fun ls h => match ls[i]? with
      | some (some x) => (f ls h).bind fun y h => (augV p x y h).bind fun v h => .ok (.nx (ls.set i (some v))) h
      | _ => .stuck) D σ H) : tAug i (tM X.K f) ti D σ H := by
  obtain ⟨S, ls, hK, hH, g, l, pp⟩ := q
  subst hH
  have pp : PF S (match ls[i]? with
    | some (some x) => (f ls S.h).bind fun y h => (augV p x y h).bind fun v h => .ok (.nx (ls.set i (some v))) h
    | _ => .stuck) D := pp
  cases e : ls[i]? with
  | none => rw [e] at pp; exact pp.elim
  | some o =>
    cases o with
    | none => rw [e] at pp; exact pp.elim
    | some v =>
      rw [e] at pp
      obtain ⟨x, hx, rx⟩ := l.at_ i v e
      refine ⟨x, hx, S, ls, hK, rfl, g, l, PF.bind (g := fun y h => (augV p v y h).bind fun v h => .ok (.nx (ls.set i (some v))) h) pp fun w y S2 g2 e2 r2 p2 => ?_⟩
      refine hp S2 v w x y _ (e2.K.trans hK) g2 (rx.ext e2) r2 ?_
      refine PF.bind p2 fun z zz S3 g3 e3 r3 p3 => ?_
      exact p3 S3 _ rfl g3 (e2.trans e3) (((l.ext e2).ext e3).set r3 i)
theorem aug_add (S : RS) (v w : Val) (x y : V) (Q : VK) (hK : S.K = X.K) (g : Good S) (rv : Rel S v x) (rw_ : Rel S w y) (p : Post S (augV .add v w S.h) Q) : ipA x y S.H Q := by
  cases v with
  | int i =>
    cases w with
    | int j => cases rv; cases rw_; exact .inl ⟨i, j, rfl, rfl, old_int g p⟩
    | _ => exact p.elim
  | str i =>
    cases w with
    | str j =>
      obtain ⟨rfl, a1⟩ := rv
      obtain ⟨rfl, a2⟩ := rw_
      obtain ⟨z, p⟩ := ite_of p
      refine .inr ⟨_, _, rfl, rfl, ?_, ?_⟩
      · rw [toS_len, toS_len, ← SL_eq, ← List.length_append]; exact z
      · rw [toS_app]; exact old_str g (asc_app a1 a2 z) p
    | _ => exact p.elim
  | _ => exact p.elim
theorem aug_sub (S : RS) (v w : Val) (x y : V) (Q : VK) (hK : S.K = X.K) (g : Good S) (rv : Rel S v x) (rw_ : Rel S w y) (p : Post S (augV .sub v w S.h) Q) : ipI (fun i j => i - j) x y S.H Q := by
  cases v with
  | int i =>
    cases w with
    | int j => cases rv; cases rw_; exact ⟨i, j, rfl, rfl, old_int g p⟩
    | _ => exact p.elim
  | _ => exact p.elim
/-- name = [..] on one line or not -/
theorem swap_comp (F : CF X c k cl) {e : Expr} {x : Str} {p : Pos} {l : Nat} {elt : Expr} {gens : List Comprehension} {scope : Scope} {pos : Pos} (he : e = .ListComp elt gens scope pos) :
    swapsWith e (some (.Name x p)) l X.env = pure (decide (c.sc.names.lookup x = some .local) && (p.line == pos.line) && !(scope.names.any fun (n, k) => n == x && (k == .local || k == .cell))) := by
  subst he
  have hb : X.env.blockKind = .function := by
    unfold Env.blockKind
    rw [F.sc, F.kind]
    rfl
  have hk : X.env.kindOf x = c.sc.names.lookup x := by
    unfold Env.kindOf
    rw [F.sc]
  show (pure (X.env.blockKind == .function && X.env.kindOf x == some .local && p.line == pos.line && !(scope.names.any fun (n, k) => n == x && (k == .local || k == .cell))) : Sem Bool) = _
  rw [hb, hk]
  by_cases h : c.sc.names.lookup x = some .local
  · rw [h]; rfl
  · have e1 : (c.sc.names.lookup x == some .local) = false := by
      cases q : c.sc.names.lookup x with
      | none => rfl
      | some y => cases y <;> first | rfl | exact absurd q h
    rw [e1, decide_eq_false h]
    rfl
/-- both, all three stores of a written pair, triple -/
theorem cf_kind (F : CF X c k cl) {x : Str} (hx : localB c.sc x = true) : X.env.kindOf x = some .local := by
  unfold Env.kindOf
  rw [F.sc]
  exact of_decide_eq_true hx
theorem cf_block (F : CF X c k cl) : X.env.blockKind = .function := by
  unfold Env.blockKind
  rw [F.sc, F.kind]
  rfl
theorem parV_parts {vs : List Expr} (hv : parV vs = true) : (∀ e ∈ vs, notStar e = true) ∧ vs.all (foldedForSure 8) = false ∧ vs.all (constantsAlone 8) = false := by
  unfold parV at hv
  simp only [Bool.and_eq_true, Bool.not_eq_true'] at hv
  exact ⟨List.all_eq_true.mp hv.1.1, hv.1.2, hv.2⟩
theorem dups2 {x y : Str} (h : (x == y) = false) : [x, y].eraseDups = [x, y] := by
  have h' : (y == x) = false := by rw [Bool.eq_false_iff] at *; exact fun z => h (by rw [eq_of_beq z]; exact beq_self_eq_true _)
  simp [List.eraseDups_cons, h, h']
theorem dups3 {x y z : Str} (h : (x == y) = false) (h2 : (x == z) = false) (h3 : (y == z) = false) : [x, y, z].eraseDups = [x, y, z] := by
  have sw : ∀ {x y : Str}, (x == y) = false → (y == x) = false := fun {x y} h => by rw [Bool.eq_false_iff] at *; exact fun z => h (by rw [eq_of_beq z]; exact beq_self_eq_true _)
  simp [List.eraseDups_cons, sw h, sw h2, sw h3]
theorem swapped_two (F : CF X c k cl) {x y : Str} {px py kp p2 : Pos} {kt k2 : Nat} {a b : Expr} (hx : localB c.sc x = true) (hy : localB c.sc y = true) (hxy : (x == y) = false) (hl : (py.line == px.line) = true) (hv : parV [a, b] = true) :
    swappedStores [.Tuple [.Name x px, .Name y py] kt kp] (.Tuple [a, b] k2 p2) X.env = pure (some [x, y]) := by
  obtain ⟨v1, v2, v3⟩ := parV_parts hv
  unfold swappedStores
  simp only [pure_bind, cf_block F, List.length_cons, List.length_nil]
  rw [if_neg (by decide)]
  rw [if_neg (by
    intro z
    obtain ⟨e, he, q⟩ := List.any_eq_true.mp z
    have := v1 e he
    cases e <;> first | (cases this; done) | (cases q; done))]
  simp only [List.filterMap_cons, List.filterMap_nil, List.head?_cons, Option.map_some, Option.getD_some, Expr.pos, cf_kind F hx, cf_kind F hy, beq_self_eq_true, hl, Bool.and_self, if_true, dups2 hxy, List.length_cons, List.length_nil]
  rw [if_neg (by decide), if_neg (by rw [v2]; decide), if_neg (by rw [v3]; decide)]
theorem swapped_three (F : CF X c k cl) {x y z : Str} {px py pz kp p2 : Pos} {kt k2 : Nat} {a b d : Expr} (hx : localB c.sc x = true) (hy : localB c.sc y = true) (hz : localB c.sc z = true) (hxy : (x == y) = false) (hxz : (x == z) = false) (hyz : (y == z) = false)
    (hl : (py.line == px.line) = true) (hl2 : (pz.line == px.line) = true) (hv : parV [a, b, d] = true) :
    swappedStores [.Tuple [.Name x px, .Name y py, .Name z pz] kt kp] (.Tuple [a, b, d] k2 p2) X.env = pure (some [x, y, z]) := by
  obtain ⟨v1, v2, v3⟩ := parV_parts hv
  unfold swappedStores
  simp only [pure_bind, cf_block F, List.length_cons, List.length_nil]
  rw [if_neg (by decide)]
  rw [if_neg (by
    intro z
    obtain ⟨e, he, q⟩ := List.any_eq_true.mp z
    have := v1 e he
    cases e <;> first | (cases this; done) | (cases q; done))]
  simp only [List.filterMap_cons, List.filterMap_nil, List.head?_cons, Option.map_some, Option.getD_some, Expr.pos, cf_kind F hx, cf_kind F hy, cf_kind F hz, beq_self_eq_true, hl, hl2, Bool.and_self, if_true, dups3 hxy hxz hyz, List.length_cons, List.length_nil]
  rw [if_neg (by decide), if_neg (by rw [v2]; decide), if_neg (by rw [v3]; decide)]
theorem no_swap (F : CF X c k cl) {tg e : Expr} (h : noSwap c tg e = true) : swappedStores [tg] e X.env = pure none := by
  cases tg with
  | Tuple ts kt pt =>
    cases e with
    | Tuple vs kv pv =>
      have h : (!(ts.length == 2 || ts.length == 3) || vs.length != ts.length || ts.any fun t => match t with
        | .Name x _ => !(localB c.sc x)
        | _ => true) = true := h
      unfold swappedStores
      simp only [pure_bind]
      cases h1 : (!(ts.length == 2 || ts.length == 3) || vs.length != ts.length || X.env.blockKind != .function) with
      | true => rfl
      | false =>
        rw [if_neg (by simp)]
        split
        · rfl
        · have h2 : (!(ts.length == 2 || ts.length == 3) || vs.length != ts.length) = false := by
            simp only [Bool.or_eq_false_iff] at h1 ⊢
            exact h1.1
          rw [h2, Bool.false_or] at h
          rw [if_pos]
          rw [Bool.or_eq_true]
          left
          rw [bne_iff_ne]
          intro hl
          obtain ⟨t, ht, q⟩ := List.any_eq_true.mp h
          have key : ∀ {f : Expr → Option Str} {l : List Expr}, (l.filterMap f).length = l.length → ∀ t ∈ l, (f t).isSome = true := fun {f l} => by
            induction l with
            | nil => intro _ t ht; cases ht
            | cons a r ih =>
              intro hl t ht
              rw [List.filterMap_cons] at hl
              cases e : f a with
              | none =>
                rw [e] at hl
                have := List.length_filterMap_le f r
                simp only [List.length_cons] at hl
                omega
              | some b =>
                rw [e] at hl
                rcases List.mem_cons.mp ht with rfl | ht
                · rw [e]; rfl
                · exact ih (by simpa using hl) t ht
          have z := key hl t ht
          cases t with
          | Name x p =>
            have q : localB c.sc x = false := by simpa using q
            have nk : ¬ (X.env.kindOf x = some NameKind.local) := by
              unfold Env.kindOf
              rw [F.sc]
              unfold localB at q
              exact of_decide_eq_false q
            have nk2 : (X.env.kindOf x == some NameKind.local) = false := by
              rw [Bool.eq_false_iff]
              intro w
              exact nk (by simpa using w)
            simp [nk2] at z
          | _ => simp at z
    | _ => cases h
  | _ => cases h
end
end M
namespace M
open PySem PySem.Spec PyProof.Rows L2
section
variable {X : Cx} {c : Ck} {k : Nat} {cl : CallFn}
theorem asg_name (i : Nat) (m : ME) : evS cl (.asg [.name i] m) = fun ls h => (evE cl m ls h).bind fun v h => (match setTg (.name i) v ls with
    | some ls => .ok (.nx ls) h
    | none => .stuck : Res M.Flow) := rfl
theorem asg_tup (is : List Nat) (m : ME) : evS cl (.asg [.tup is] m) = fun ls h => (evE cl m ls h).bind fun v h => (match setTg (.tup is) v ls with
    | some ls => .ok (.nx ls) h
    | none => .stuck : Res M.Flow) := by
  funext ls h
  show (evE cl m ls h).bind _ = _
  cases evE cl m ls h with
  | ok v h1 =>
    simp only [bind_ok]
    show ((match setTg (.tup is) v ls with
      | some ls => .ok ls h1
      | none => .stuck : Res Loc).bind fun ls h => stoTgs cl v [] ls h).bind _ = _
    cases setTg (.tup is) v ls <;> rfl
  | exc _ _ => rfl
  | stuck => rfl
theorem asg_ix (a i m : ME) : evS cl (.asg [.ix a i] m) = fun ls h => (evE cl m ls h).bind fun v h => (evE cl a ls h).bind fun x h => (evE cl i ls h).bind fun y h => ref1S x h fun n => int1S y fun j => lst1S h n fun xs => (match ixN xs.length j with
    | some k => .ok (.nx ls) (h.set n (.list (xs.set k v)))
    | none => .stuck : Res M.Flow) := by
  funext ls h
  show (evE cl m ls h).bind _ = _
  cases evE cl m ls h with
  | ok v h1 =>
    simp only [bind_ok]
    show (((evE cl a ls h1).bind fun x h => (evE cl i ls h).bind fun y h => ref1S x h fun n => int1S y fun j => lst1S h n fun xs => (match ixN xs.length j with
      | some k => .ok ls (h.set n (.list (xs.set k v)))
      | none => .stuck : Res Loc)).bind fun ls h => stoTgs cl v [] ls h).bind _ = _
    cases evE cl a ls h1 with
    | ok x h2 =>
      simp only [bind_ok]
      cases evE cl i ls h2 with
      | ok y h3 =>
        simp only [bind_ok]
        cases x with
        | ref n =>
          cases y with
          | int j =>
            unfold ref1S int1S lst1S
            simp only
            cases h3[n]? with
            | none => rfl
            | some o =>
              cases o with
              | list xs => simp only; cases ixN xs.length j <;> rfl
              | _ => rfl
          | _ => rfl
        | _ => rfl
      | exc _ _ => rfl
      | stuck => rfl
    | exc _ _ => rfl
    | stuck => rfl
  | exc _ _ => rfl
  | stuck => rfl
theorem evB_cons (s : MS) (r : List MS) : evB cl (s :: r) = fun ls h => (evS cl s ls h).bind fun f h => seqF f h (evB cl r) := by
  funext ls h
  show (evS cl s ls h).bind _ = _
  cases evS cl s ls h with
  | ok f h1 => cases f <;> rfl
  | exc _ _ => rfl
  | stuck => rfl
/-- a comprehension's parts -/
theorem comp_parts (F : CF X c k cl) {m : Bool} {own : List Nat} {t : Tg} {i : MI} {cs : List ME} {el : ME} {elt : Expr} {gens : List Comprehension} {scope : Scope} {pos : Pos} (h : okE c (.comp m own t i cs el) (.ListComp elt gens scope pos) = true) :
    ∃ tg iter ifs, gens = [⟨tg, iter, ifs, 0⟩] ∧ plainE iter = true ∧ PI X tg iter (tI X.K (evI cl i)) ∧ BlkOk X.N X.env.scope scope (ownP c own) ∧
      (∀ (s : Shared) (H : Hp) (C : Addr) (cs' : List (Str × Addr)) (fp : List Addr), PG (X.blk s H scope (compEnvC scope cs' C X.env) fp) tg (gOf X.K t)) ∧
      (∀ (s : Shared) (H : Hp) (C : Addr) (cs' : List (Str × Addr)) (fp : List Addr), PTs (X.blk s H scope (compEnvC scope cs' C X.env) fp) ifs (tB X.K (evC cl cs))) ∧
      (∀ (s : Shared) (H : Hp) (C : Addr) (cs' : List (Str × Addr)) (fp : List Addr), PE (X.blk s H scope (compEnvC scope cs' C X.env) fp) elt (tM X.K (evE cl el))) ∧ ∀ j ∈ t.slots, j ∈ own := by
  have h : (match gen1 gens with
    | some (tg, iter, ifs) => plainE iter && compOk c own t scope tg && okI c tg i iter && okEs (ckB c scope own) cs ifs && decide (ifs.length ≤ 1) && (cs.all tst) && okE (ckB c scope own) el elt
    | none => false) = true := h
  cases hg : gen1 gens with
  | none => rw [hg] at h; cases h
  | some q =>
    obtain ⟨tg, iter, ifs⟩ := q
    rw [hg] at h
    have h1 := Bool.and_eq_true_iff.mp (show ((((((plainE iter && compOk c own t scope tg) && okI c tg i iter) && okEs (ckB c scope own) cs ifs) && decide (ifs.length ≤ 1)) && (cs.all tst)) && okE (ckB c scope own) el elt) = true from h)
    have h2 := Bool.and_eq_true_iff.mp h1.1
    have h3 := Bool.and_eq_true_iff.mp h2.1
    have h4 := Bool.and_eq_true_iff.mp h3.1
    have h5 := Bool.and_eq_true_iff.mp h4.1
    have h6 := Bool.and_eq_true_iff.mp h5.1
    have h7 := Bool.and_eq_true_iff.mp (show ((blkC c.N c.sc scope (ownP c own) && (t.slots.all fun i => own.contains i)) && okTg (ckB c scope own) t tg) = true from h6.2)
    have h8 := Bool.and_eq_true_iff.mp h7.1
    exact ⟨tg, iter, ifs, gen1_ok hg, h6.1, ok_I i F h5.2, by rw [F.hN, F.sc]; exact blkOk_by h8.1, fun s H C cs' fp => pg_of (cf_blk F h8.1 s H C cs' fp) h7.2,
      fun s H C cs' fp => ok_Cs cs (cf_blk F h8.1 s H C cs' fp) h4.2 (of_decide_eq_true h3.2) h2.2, fun s H C cs' fp => (ok_E el (cf_blk F h8.1 s H C cs' fp) h1.2).pe,
      fun j hj => List.contains_iff_mem.mp ((List.all_eq_true.mp h8.2) j hj)⟩
theorem set_ok (F : CF X c k cl) {i : Nat} {m : ME} {tg e : Expr} {pos : Pos} (ht : okTg c (.name i) tg = true) (he : okE c m e = true) (hc : (!(compE e) || isComp m) = true) : PS X (.Assign [tg] e pos) (tS X.K (evS cl (.asg [.name i] m))) := by
  cases tg with
  | Name x p =>
    have h' := Bool.and_eq_true_iff.mp (show (_ && inL x c.st) = true from ht)
    obtain ⟨l1, l2⟩ := F.st x (inL_ok h'.2)
    have hN : X.N.Nodup := by rw [F.hN]; exact F.nd
    have hi : X.N[i]? = some x := by rw [F.hN]; exact nm_at h'.1
    by_cases hce : compE e = true
    · rw [hce] at hc
      cases m with
      | comp mb own t it cs el =>
        cases e with
        | ListComp elt gens scope p2 =>
          have hsw := swap_comp F (x := x) (p := p) (l := pos.line) (e := .ListComp elt gens scope p2) rfl
          obtain ⟨tg, iter, ifs, rfl, hp, hI, ok, hg, hts, hel, hs⟩ := comp_parts F he
          cases hb : (decide (c.sc.names.lookup x = some .local) && (p.line == p2.line) && !(scope.names.any fun (n, k) => n == x && (k == .local || k == .cell))) with
          | true =>
            rw [hb] at hsw
            have hl : X.env.scope.names.lookup x = some .local := by
              rw [F.sc]
              exact of_decide_eq_true (Bool.and_eq_true_iff.mp (Bool.and_eq_true_iff.mp hb).1).1
            refine PS.wk (ps_setLc F.calm hN hi hl hsw hI ok hg hts hel (fold_plain hp)) fun D σ H q => ?_
            rw [asg_name] at q
            have q2 : tAsg (tM X.K (evE cl (.comp mb own t it cs el))) (gName i) D σ H := tAsg_M gok_name q
            show tLc _ _ _ _ ((ownP c own).map (·.2)) σ H _
            rw [ownP_snd]
            exact lc_M (gOf_ok t) hs q2
          | false =>
            rw [hb] at hsw
            refine PS.wk (ps_set hN hi l1 (ok_E _ F he).pe hsw l2) fun D σ H q => ?_
            rw [asg_name] at q
            exact tAsg_M gok_name q
        | _ => cases he
      | _ => cases hc
    · refine PS.wk (ps_set hN hi l1 (ok_E m F he).pe (swap_plain (by simpa using hce)) l2) fun D σ H q => ?_
      rw [asg_name] at q
      exact tAsg_M gok_name q
  | _ => cases ht
theorem setT_ok (F : CF X c k cl) {is : List Nat} {m : ME} {tg e : Expr} {pos : Pos} (ht : okTg c (.tup is) tg = true) (he : okE c m e = true) (hc : (!(isTupV e) || noSwap c tg e) = true) : PS X (.Assign [tg] e pos) (tS X.K (evS cl (.asg [.tup is] m))) := by
  have hg := pg_of F ht
  cases tg with
  | Tuple es n p =>
    refine PS.wk (ps_asg (ok_E m F he).pe hg ?_ ?_ rfl) fun D σ H q => ?_
    · show swapsWith e (some (.Tuple es n p)) pos.line X.env = pure false
      cases e <;> rfl
    · rcases Bool.or_eq_true_iff.mp hc with hc | hc
      · cases e <;> first | rfl | cases hc
      · exact no_swap F hc
    · rw [asg_tup] at q
      exact tAsg_M (gOf_ok (.tup is)) q
  | _ => cases ht
theorem setI_ok (F : CF X c k cl) {a i m : ME} {o j e : Expr} {p pos : Pos} (ha : okE c a o = true) (hi : okE c i j = true) (he : okE c m e = true) : PS X (.Assign [.Subscript o j p] e pos) (tS X.K (evS cl (.asg [.ix a i] m))) := by
  have hj := okE_plain hi
  have hg : PG X (.Subscript o j p) (gSub (tM X.K (evE cl a)) (tM X.K (evE cl i)) rSetL) := pg_sub (ok_E a F ha).pe (ok_E i F hi).pe set_list (fun v => by cases j <;> first | rfl | cases hj)
  refine PS.wk (ps_asg (ok_E m F he).pe hg ?_ ?_ rfl) fun D σ H q => ?_
  · show swapsWith e (some (.Subscript o j p)) pos.line X.env = pure false
    cases e <;> rfl
  · cases e <;> rfl
  · rw [asg_ix] at q
    exact tSub_M q
theorem nm_facts (F : CF X c k cl) {i : Nat} {x : Str} {p : Pos} (ht : okTg c (.name i) (.Name x p) = true) : X.N[i]? = some x ∧ L2.Loc X.env.scope x ∧ (X.fn x = true ∨ X.env.scope.names.lookup x = some .local) := by
  have h' := Bool.and_eq_true_iff.mp (show (_ && inL x c.st) = true from ht)
  obtain ⟨l1, l2⟩ := F.st x (inL_ok h'.2)
  exact ⟨by rw [F.hN]; exact nm_at h'.1, l1, l2⟩
theorem local_facts (F : CF X c k cl) {x : Str} (h : localB c.sc x = true) : X.env.scope.names.lookup x = some .local := by
  rw [F.sc]; exact of_decide_eq_true h
theorem tPar_M {i j : Nat} {fs : Loc → Heap → Res (List Val)} {D : Ends} {σ : L2.St} {H : Hp} (q : tS X.K (fun ls h => (fs ls h).bind fun vs h => (match setsTg [i, j] vs ls with
    | some ls => .ok (.nx ls) h
    | none => .stuck : Res M.Flow)) D σ H) : tPar i j (tAs X.K fs) D σ H :=
  tS_bind (g := fun ls vs h => (match setsTg [i, j] vs ls with
    | some ls => .ok (.nx ls) h
    | none => .stuck : Res M.Flow)) q fun vs xs S ls hK g l r p => by
    match vs, r, p with
    | [v, w], r, p =>
      obtain ⟨x, t, rfl, r1, y, u, rfl, r2, rfl⟩ := r
      exact ⟨x, y, rfl, p S _ rfl g .refl ((l.set r1 i).set r2 j)⟩
    | [], _, p => exact p.elim
    | [_], _, p => exact p.elim
    | _ :: _ :: _ :: _, _, p => exact p.elim
theorem tPar3_M {i j m : Nat} {fs : Loc → Heap → Res (List Val)} {D : Ends} {σ : L2.St} {H : Hp} (q : tS X.K (fun ls h => (fs ls h).bind fun vs h => (match setsTg [i, j, m] vs ls with
    | some ls => .ok (.nx ls) h
    | none => .stuck : Res M.Flow)) D σ H) : tPar3 i j m (tAs X.K fs) D σ H :=
  tS_bind (g := fun ls vs h => (match setsTg [i, j, m] vs ls with
    | some ls => .ok (.nx ls) h
    | none => .stuck : Res M.Flow)) q fun vs xs S ls hK g l r p => by
    match vs, r, p with
    | [v, w, z], r, p =>
      obtain ⟨x, t, rfl, r1, y, u, rfl, r2, b, d, rfl, r3, rfl⟩ := r
      exact ⟨x, y, b, rfl, p S _ rfl g .refl (((l.set r1 i).set r2 j).set r3 m)⟩
    | [], _, p => exact p.elim
    | [_], _, p => exact p.elim
    | [_, _], _, p => exact p.elim
    | _ :: _ :: _ :: _ :: _, _, p => exact p.elim
theorem par2_ok (F : CF X c k cl) {i j : Nat} {a b : ME} {x y : Str} {px py kp p2 pos : Pos} {kt k2 : Nat} {ea eb : Expr}
    (h : okPar c [i, j] [a, b] [.Tuple [.Name x px, .Name y py] kt kp] (.Tuple [ea, eb] k2 p2) = true) : PS X (.Assign [.Tuple [.Name x px, .Name y py] kt kp] (.Tuple [ea, eb] k2 p2) pos) (tS X.K (evS cl (.par [i, j] [a, b]))) := by
  have h : (okTg c (.name i) (.Name x px) && okTg c (.name j) (.Name y py) && localB c.sc x && localB c.sc y && !(i == j) && !(x == y) && (py.line == px.line) && parV [ea, eb] && okEs c [a, b] [ea, eb]) = true := h
  simp only [Bool.and_eq_true, Bool.not_eq_true'] at h
  obtain ⟨⟨⟨⟨⟨⟨⟨⟨h1, h2⟩, h3⟩, h4⟩, h5⟩, h6⟩, h7⟩, h8⟩, h9⟩ := h
  obtain ⟨n1, _, _⟩ := nm_facts F h1
  obtain ⟨n2, _, _⟩ := nm_facts F h2
  have hN : X.N.Nodup := by rw [F.hN]; exact F.nd
  refine PS.wk (ps_par F.calm hN n1 n2 (fun e => by rw [e, beq_self_eq_true] at h5; cases h5) (local_facts F h3) (local_facts F h4) (ok_Es [a, b] F h9).pa (swapped_two F h3 h4 h6 h7 h8)) fun D σ H q => tPar_M q
theorem par3_ok (F : CF X c k cl) {i j l : Nat} {a b d : ME} {x y z : Str} {px py pz kp p2 pos : Pos} {kt k2 : Nat} {ea eb ed : Expr}
    (h : okPar c [i, j, l] [a, b, d] [.Tuple [.Name x px, .Name y py, .Name z pz] kt kp] (.Tuple [ea, eb, ed] k2 p2) = true) : PS X (.Assign [.Tuple [.Name x px, .Name y py, .Name z pz] kt kp] (.Tuple [ea, eb, ed] k2 p2) pos) (tS X.K (evS cl (.par [i, j, l] [a, b, d]))) := by
  have h : (okTg c (.name i) (.Name x px) && okTg c (.name j) (.Name y py) && okTg c (.name l) (.Name z pz) && localB c.sc x && localB c.sc y && localB c.sc z && !(i == j) && !(i == l) && !(j == l) && !(x == y) && !(x == z) && !(y == z) && (py.line == px.line) && (pz.line == px.line) && parV [ea, eb, ed] && okEs c [a, b, d] [ea, eb, ed]) = true := h
  simp only [Bool.and_eq_true, Bool.not_eq_true'] at h
  obtain ⟨⟨⟨⟨⟨⟨⟨⟨⟨⟨⟨⟨⟨⟨⟨h1, h2⟩, h3⟩, h4⟩, h5⟩, h6⟩, h7⟩, h8⟩, h9⟩, g1⟩, g2⟩, g3⟩, g4⟩, g5⟩, g6⟩, g7⟩ := h
  obtain ⟨n1, _, _⟩ := nm_facts F h1
  obtain ⟨n2, _, _⟩ := nm_facts F h2
  obtain ⟨n3, _, _⟩ := nm_facts F h3
  have hN : X.N.Nodup := by rw [F.hN]; exact F.nd
  have ne : ∀ {i j : Nat}, (i == j) = false → i ≠ j := fun h e => by rw [e, beq_self_eq_true] at h; cases h
  refine PS.wk (ps_par3 F.calm hN n1 n2 n3 (ne h7) (ne h8) (ne h9) (local_facts F h4) (local_facts F h5) (local_facts F h6) (ok_Es [a, b, d] F g7).pa (swapped_three F h4 h5 h6 g1 g2 g3 g4 g5 g6)) fun D σ H q => tPar3_M q
theorem asg2_ok (F : CF X c k cl) {i j : Nat} {m : ME} {tg tg2 e : Expr} {pos : Pos} (h : okAsg2 c i j m [tg, tg2] e = true) : PS X (.Assign [tg, tg2] e pos) (tS X.K (evS cl (.asg2 i j m))) := by
  have h : (okTg c (.name i) tg && okTg c (.name j) tg2 && okE c m e) = true := h
  simp only [Bool.and_eq_true] at h
  obtain ⟨⟨h1, h2⟩, h3⟩ := h
  cases tg with
  | Name x px =>
    cases tg2 with
    | Name y py =>
      obtain ⟨n1, l1, f1⟩ := nm_facts F h1
      obtain ⟨n2, l2, f2⟩ := nm_facts F h2
      have hN : X.N.Nodup := by rw [F.hN]; exact F.nd
      refine PS.wk (ps_asg2 (ok_E m F h3).pe (pg_name hN n1 l1 f1) (pg_name hN n2 l2 f2) rfl rfl) fun D σ H q => ?_
      exact tS_bind (g := fun ls v h => .ok (.nx ((ls.set i (some v)).set j (some v))) h) q fun v x S ls hK g l r p => p S _ rfl g .refl ((l.set r i).set r j)
    | _ => cases h2
  | _ => cases h1
theorem par_ok (F : CF X c k cl) {is : List Nat} {es : List ME} {tgs : List Expr} {e : Expr} {pos : Pos} (h : okPar c is es tgs e = true) : PS X (.Assign tgs e pos) (tS X.K (evS cl (.par is es))) := by
  have h' := h
  unfold okPar at h'
  split at h'
  · exact par2_ok F h
  · exact par3_ok F h
  · cases h'
theorem asg2s_ok (F : CF X c k cl) {i j : Nat} {m : ME} {tgs : List Expr} {e : Expr} {pos : Pos} (h : okAsg2 c i j m tgs e = true) : PS X (.Assign tgs e pos) (tS X.K (evS cl (.asg2 i j m))) := by
  have h' := h
  unfold okAsg2 at h'
  split at h'
  · exact asg2_ok F h
  · cases h'
mutual
theorem ok_S (F : CF X c k cl) (hp : PassesOwn (model X.prog X.w) X.A X.env X.xe) : ∀ (s : MS) {st : Stmt}, okS c s st = true → PS X st (tS X.K (evS cl s))
  | .asg ts m, st, h => by
    cases st with
    | Assign tgs e pos =>
      cases tgs with
      | nil =>
        cases ts with
        | nil => cases h
        | cons t r => cases r <;> cases t <;> cases h
      | cons tg more =>
        cases ts with
        | nil => cases h
        | cons t r =>
          cases r with
          | cons _ _ => cases t <;> cases h
          | nil =>
            cases more with
            | cons _ _ => cases t <;> cases tg <;> cases h
            | nil =>
              cases t with
              | name i =>
                have h1 := Bool.and_eq_true_iff.mp (show ((okTg c (.name i) tg && okE c m e) && (!(compE e) || isComp m)) = true from h)
                have h2 := Bool.and_eq_true_iff.mp h1.1
                exact set_ok F h2.1 h2.2 h1.2
              | tup is =>
                have h1 := Bool.and_eq_true_iff.mp (show ((okTg c (.tup is) tg && okE c m e) && (!(isTupV e) || noSwap c tg e)) = true from h)
                have h2 := Bool.and_eq_true_iff.mp h1.1
                exact setT_ok F h2.1 h2.2 h1.2
              | ix a i =>
                cases tg with
                | Subscript o j p =>
                  have h1 := Bool.and_eq_true_iff.mp (show ((okE c a o && okE c i j) && okE c m e) = true from h)
                  have h2 := Bool.and_eq_true_iff.mp h1.1
                  exact setI_ok F h2.1 h2.2 h1.2
                | _ => cases h
    | _ =>
      cases ts with
      | nil => cases h
      | cons t r => cases r <;> cases t <;> cases h
  | .par is es, st, h => by
    cases st with
    | Assign tgs e pos => exact par_ok F h
    | _ => cases h
  | .asg2 i j m, st, h => by
    cases st with
    | Assign tgs e pos => exact asg2s_ok F h
    | _ => cases h
  | .aug i p m, st, h => by
    cases st with
    | AugAssign tg op e pos =>
      cases tg with
      | Name x p0 =>
        have h1 := Bool.and_eq_true_iff.mp (show ((((binOf op == some p) && (p == .add || p == .sub)) && okTg c (.name i) (.Name x ⟨0, 0, 0, 0⟩)) && okE c m e) = true from h)
        have h2 := Bool.and_eq_true_iff.mp h1.1
        have h3 := Bool.and_eq_true_iff.mp h2.1
        have h' := Bool.and_eq_true_iff.mp (show (_ && inL x c.st) = true from h2.2)
        obtain ⟨l1, l2⟩ := F.st x (inL_ok h'.2)
        have hN : X.N.Nodup := by rw [F.hN]; exact F.nd
        have hi : X.N[i]? = some x := by rw [F.hN]; exact nm_at h'.1
        have eo := eq_of_beq h3.1
        have he := (ok_E m F h1.2).pe
        rcases Bool.or_eq_true_iff.mp h3.2 with z | z
        · have ep := eq_of_beq z
          subst ep
          cases op <;> cases eo
          exact PS.wk (ps_aug hN hi l1 he ip_addA l2) fun D σ H q => aug_M aug_add q
        · have ep := eq_of_beq z
          subst ep
          cases op <;> cases eo
          exact PS.wk (ps_aug hN hi l1 he ip_sub l2) fun D σ H q => aug_M aug_sub q
      | _ => cases h
    | _ => cases h
  | .expr m, st, h => by
    cases st with
    | Expr e pos =>
      have h1 := Bool.and_eq_true_iff.mp (show (okE c m e && !(compE e)) = true from h)
      exact PS.wk (ps_expr (ok_E m F h1.1).pe (swap_plain (by simpa using h1.2))) fun D σ H q => tDrop_M q
    | _ => cases h
  | .ite t a b, st, h => by
    cases st with
    | If e x y pos =>
      have h1 := Bool.and_eq_true_iff.mp (show (((okE c t e && tst t) && okB c a x) && okB c b y) = true from h)
      have h2 := Bool.and_eq_true_iff.mp h1.1
      have h3 := Bool.and_eq_true_iff.mp h2.1
      exact PS.wk (ps_if ((ok_E t F h3.1).pt h3.2) (ok_B F hp a h2.2) (ok_B F hp b h1.2)) fun D σ H q => tIfS_M q
    | _ => cases h
  | .wh t b, st, h => by
    cases st with
    | While e y z pos =>
      cases z with
      | cons _ _ => cases h
      | nil =>
        have h1 := Bool.and_eq_true_iff.mp (show ((okE c t e && tst t) && okB c b y) = true from h)
        have h2 := Bool.and_eq_true_iff.mp h1.1
        exact PS.wk (ps_while hp ((ok_E t F h2.1).pt h2.2) (ok_B F hp b h1.2)) fun D σ H q => tWhile_M q
    | _ => cases h
  | .for t i b, st, h => by
    cases st with
    | For tg it y z pos =>
      cases z with
      | cons _ _ => cases h
      | nil =>
        have h1 := Bool.and_eq_true_iff.mp (show (((okTg c t tg && plainE it) && okI c tg i it) && okB c b y) = true from h)
        have h2 := Bool.and_eq_true_iff.mp h1.1
        have h3 := Bool.and_eq_true_iff.mp h2.1
        exact PS.wk (ps_for hp F.calm (ok_I i F h2.2) (pg_of F h3.1) (ok_B F hp b h1.2) (fold_plain h3.2)) fun D σ H q => tFor_M (gOf_ok t) q
    | _ => cases h
  | .ret m, st, h => by
    cases st with
    | Return v pos =>
      cases v with
      | some e => exact PS.wk (ps_ret (ok_E m F (show okE c m e = true from h)).pe) fun D σ H q => tRet_M q
      | none =>
        cases m with
        | lit v =>
          cases v with
          | none =>
            refine PS.wk ps_retN fun D σ H q => ?_
            obtain ⟨S, ls, hK, hH, g, l, p⟩ := q
            subst hH
            exact p S .non rfl g .refl rfl
          | _ => cases h
        | _ => cases h
    | _ => cases h
  | .kill is, st, h => by cases h
  | .brk, st, h => by
    cases st with
    | Break pos => exact PS.wk ps_break fun D σ H q => tBreak_M q
    | _ => cases h
theorem ok_B (F : CF X c k cl) (hp : PassesOwn (model X.prog X.w) X.A X.env X.xe) : ∀ (b : List MS) {ss : List Stmt}, okB c b ss = true → PSs X ss (tS X.K (evB cl b))
  | [], ss, h => by
    cases ss with
    | nil => exact PSs.wk pss_nil fun D σ H q => tNext_M q
    | cons _ _ => cases h
  | s :: r, ss, h => by
    by_cases hk : ∃ is, s = .kill is
    · obtain ⟨is, rfl⟩ := hk
      have h : okB c r ss = true := h
      refine PSs.wk (ok_B F hp r h) fun D σ H q => ?_
      exact tKill_M (fb := evB cl r) (fun _ _ _ z => z) q
    · cases ss with
      | nil => cases s <;> first | exact absurd ⟨_, rfl⟩ hk | cases h
      | cons st ss =>
        have h' : okS c s st = true ∧ okB c r ss = true := by
          cases s with
          | kill is => exact absurd ⟨is, rfl⟩ hk
          | _ => exact Bool.and_eq_true_iff.mp h
        refine PSs.wk (pss_cons (ok_S F hp s h'.1) (ok_B F hp r h'.2)) fun D σ H q => ?_
        rw [evB_cons] at q
        exact tSeq_M q
end
end
end M
namespace M
open PySem PySem.Spec PyProof.Rows L2
/-! ### a def does what its text in small says -/
theorem start_rel {S : RS} {N : List Str} {vs : List Val} {xs : List V} {n : Nat} (r : Rels S vs xs) (h : n = N.length) (hl : vs.length ≤ N.length) : LRel S (vs.map some ++ List.replicate (n - vs.length) none) (L2.start N xs) := by
  subst h
  have hx := r.len
  refine ⟨by unfold L2.start; simp only [List.length_append, List.length_map, List.length_replicate]; omega, fun i v e => ?_⟩
  by_cases hi : i < vs.length
  · rw [List.getElem?_append_left (by simpa using hi), List.getElem?_map] at e
    cases q : vs[i]? with
    | none => rw [q] at e; cases e
    | some w =>
      rw [q] at e
      cases e
      obtain ⟨x, hx2, rx⟩ := r.get q
      refine ⟨x, ?_, rx⟩
      unfold L2.start
      rw [List.getElem?_append_left (by rw [List.length_map]; omega), List.getElem?_map, hx2]
      rfl
  · rw [List.getElem?_append_right (by simpa using Nat.le_of_not_lt hi), List.getElem?_replicate] at e
    split at e <;> cases e
/-- what is left of a call -/
theorem run_end {S : RS} (g : Good S) {cl : CallFn} {fn : Fn} {vs : List Val} {Q : VK} (hn : vs.length = fn.n) (p : Post S (runF cl fn vs S.h) Q) :
    PF S (evB cl fn.body (vs.map some ++ List.replicate (fn.slots - vs.length) none) S.h) { nx := fun _ H' => Q .non H', rt := Q } := by
  unfold runF at p
  rw [if_pos hn, ← hn] at p
  have fin : ∀ {v : Val} {h' : Heap} {S' : RS} {x : V}, Post S (dropTo fn.keep S.h v h') Q → S'.h = h' → Good S' → Ext S S' → Rel S' v x → Q x S'.H := fun {v h' S' x} p e1 g' e' r => by
    unfold dropTo at p
    cases hk : fn.keep with
    | true => rw [hk] at p; exact p S' x e1 g' e' r
    | false =>
      rw [hk] at p
      simp only [Bool.false_eq_true, if_false] at p
      obtain ⟨c, p⟩ := ite_of p
      obtain ⟨c1, c2⟩ := Bool.and_eq_true_iff.mp c
      rw [← e1] at c2 p
      obtain ⟨d1, d2, d3⟩ := drop_ok g g' e' c2
      exact p { S' with r := S.r, h := S'.h.take S.h.length } x rfl d1 d2 (d3 v x r c1)
  cases e : evB cl fn.body (vs.map some ++ List.replicate (fn.slots - vs.length) none) S.h with
  | ok f h' =>
    rw [e] at p
    cases f with
    | nx ls => exact fun S' σ e1 g' e' _ => fin (v := .none) (x := .non) p e1 g' e' rfl
    | ret v => exact fun S' x e1 g' e' r => fin p e1 g' e' r
    | brk ls => exact p.elim
  | exc _ _ => rw [e] at p; exact p.elim
  | stuck => rw [e] at p; exact p.elim
/-- the def's scope, looked at -/
def scopeOk (N ps : List Str) (sc : Scope) : Bool := (match sc.kind with
  | .function => true
  | _ => false) && !sc.isCoroutine && !sc.isGenerator && decide N.Nodup && strsSame (N.take ps.length) ps && ps.all (locB sc) && sc.names.all fun y => match y.2 with
    | .free => false
    | _ => true
theorem locB_ok {sc : Scope} {x : Str} (h : locB sc x = true) : sc.names.lookup x = some .local ∨ sc.names.lookup x = some .cell := by
  unfold locB at h
  split at h
  · rename_i e; exact .inl e
  · rename_i e; exact .inr e
  · cases h
theorem scope_ok {N ps : List Str} {sc : Scope} (h : scopeOk N ps sc = true) : FnScope N ps sc := by
  unfold scopeOk at h
  simp only [Bool.and_eq_true, List.all_eq_true, Bool.not_eq_true', decide_eq_true_eq] at h
  obtain ⟨⟨⟨⟨⟨⟨h1, h2⟩, h3⟩, h4⟩, h5⟩, h6⟩, h7⟩ := h
  refine ⟨?_, h2, h3, h4, strsSame_eq h5, fun x hx => locB_ok (h6 x hx), fun y hy e => ?_⟩
  · split at h1
    · assumption
    · cases h1
  · have q := h7 y hy
    rw [e] at q
    cases q
section
variable {P : Program} {w : World} {K : PySem.W.Frag} {mg : Str → Option Value} {base : PySem.Heap}
/-- the facts of the module, for all defs -/
structure MF (P : Program) (w : World) (K : PySem.W.Frag) (mg : Str → Option Value) (base : PySem.Heap) (c : Ck) (k : Nat) (cl : CallFn) : Prop where
  bl : ∀ x ∈ c.bl, mg x = none
  gl : ∀ p ∈ c.gls, ∃ u y, mg p.1 = some u ∧ RelV y u ∧ ∀ S : RS, S.K = K → Rel S p.2 y
  fns : ∀ (i : Nat) (e : FnS), c.fns[i]? = some e → ∃ f fd ps, mg e.x = some (.ref f) ∧ PySem.W.keepIn K (.ref f) = true ∧ (∀ sh ∈ e.shapes, Bnd K fd ps sh) ∧ FnG P w K mg base k f fd ps (cl i)
theorem cf_of (M : MF P w K mg base c k cl) {N ps : List Str} {qual : Str} {f : Addr} {cdv : Value} {A : Around} {outer : List Env} {s : Shared} {H : Hp} (hN : c.N = N) (hsc : FnScope N ps c.sc) (hst : ∀ x ∈ c.st, locB c.sc x = true)
    (hr : Room k (A.deeper (envOfC qual c.sc s.heap.objs.size f cdv))) (hg : A.guards = some []) : CF (cxOf CXF P w K mg base N qual c.sc f cdv A outer s H EF) c k cl :=
  ⟨hN.symm, by rw [hN]; exact hsc.nd, rfl, hsc.kind, rfl, hg, hr, fun x hx => ⟨locB_ok (hst x hx), .inl rfl⟩, M.bl, M.gl, M.fns⟩
theorem fnG_of {c : Ck} {k : Nat} {cl : CallFn} (M : MF P w K mg base c k cl) {x qual : Str} {pa : Arguments} {body : List Stmt} {dvs : List V} {kws : List (Str × V)} {f : Addr} {fd : FuncData} {ps : List Str} {fn : Fn}
    (F : FunD K x qual pa body c.sc dvs kws f fd) (S : scopeOk c.N ps c.sc = true) (hst : c.st.all (locB c.sc) = true) (hn : fn.n = ps.length) (hsl : fn.slots = c.N.length) (hb : okB c fn.body body = true) :
    FnG P w K mg base (k + 1) f fd ps (runF cl fn) := by
  have SC := scope_ok S
  have hpl : ps.length ≤ c.N.length := by
    have z := congrArg List.length SC.pre
    rw [List.length_take] at z
    omega
  intro A outer s S0 args us xs vs Q hr hgd hK g e0 hB r rv p
  obtain ⟨oc, od, dV, kV, doc, pm, an, cdv, ct, osl, efd, lk, hcd, _, _⟩ := F.ex
  have hvn : vs.length = fn.n := by
    unfold runF at p
    by_cases z : vs.length = fn.n
    · exact z
    · rw [if_neg z] at p; exact p.elim
  have hxl : xs.length = ps.length := by rw [← rv.len, hvn, hn]
  have KX : K.In s.heap := e0.mod.kin.keeps fun b o e => (e0.bs b o e).1
  have lim : s.heap.NoLimit := e0.mod.nolimit.keeps fun b o e => (e0.bs b o e).1
  have hkd : ∀ y ∈ ps.zip us, c.sc.names.lookup y.1 = some .local ∨ (c.sc.names.lookup y.1 = some .cell ∧ ((cellsFrom (s.heap.objs.size + 1) c.sc.names []).lookup y.1).isSome = true) := fun y hy =>
    (SC.par y.1 (List.of_mem_zip (a := y.1) (b := y.2) hy).1).imp id fun q => ⟨q, PySem.W.cellsFrom_some _ _ _ (.inl q)⟩
  subst efd
  refine codeAny_call_function hr.depth (KX _ _ lk) rfl SC.co SC.gen rfl (PySem.W.codeRec_of KX hcd) (hB _ _ _ _ (wpAny_newFunctionEnv_cells SC.kind hkd fun env he sa ic => ?_))
  subst he
  refine ⟨lim.keeps ic.toInCall.keep, codeAny_func ?_⟩
  have CFx := cf_of M (qual := qual) (f := f) (cdv := cdv) (outer := outer) (s := s) (H := S0.H) rfl SC (fun x hx => (List.all_eq_true.mp hst) x hx) (hr.deeper _) hgd
  have pb := ok_B CFx (passes_of (K := fun e s'' => CXF outer S0.H s EF e s'') rfl) fn.body hb
  have I0 : Inv (cxOf CXF P w K mg base c.N qual c.sc f cdv A outer s S0.H EF) [] (L2.start c.N xs) S0.H sa := inv_start SC hr.hd e0 hxl r ic
  have start : tS K (evB cl fn.body) { nx := fun _ H' => Q .non H', rt := Q } (L2.start c.N xs) S0.H := ⟨S0, _, hK, rfl, g, start_rel rv hsl (by rw [hvn, hn]; exact hpl), run_end g hvn p⟩
  refine wpAny_mono (pb.run [] sa _ S0.H _ I0 start) (fun fl sb hs => ?_) fun e sb hs => hs
  have done : ∀ {σ' : L2.St} {H' : Hp} {v : V} {u : Value}, Inv (cxOf CXF P w K mg base c.N qual c.sc f cdv A outer s S0.H EF) [] σ' H' sb → RelV v u → Q v H' → CE outer P w S0.H s Q u sb := fun {σ' H' v u} J ru q => ⟨v, H', J.os, J.bare, J.base, J.hok, ru, q⟩
  cases fl with
  | ret u => obtain ⟨v, _, _, J, ru, q⟩ := hs; exact done J ru q
  | next => obtain ⟨_, _, J, q⟩ := hs; exact done (v := V.non) (u := Value.none) J rfl q
  | brk => obtain ⟨_, _, _, q⟩ := hs; exact q.elim
  | cont => obtain ⟨_, _, _, q⟩ := hs; exact q.elim
end
end M
namespace M
open PySem PySem.Spec PyProof.Rows L2
/-! ### tokens: behind a local parameter's store one is out -/
section
variable {MM : Model} {A : Around} {E : Value → Shared → Prop} {s sO : Shared} {env : Env} {m cm : Str → Option Value}
theorem store_tok {n : Str} {v : Value} {Q : Unit → Shared → Prop} (x : InCallC sO env.locals m env.cells cm s) (fk : env.scope.kind = .function) (lk : env.kindOf n = some .local)
    (h : ∀ s', InCallC sO env.locals (fun y => if y = n then some v else m y) env.cells cm s' → 1 ≤ s'.toks → Q () s') : wpAny MM A (storeName env n v) Q E s := by
  have pl : (env.scope.kind == .class || (env.scope.kind == .module && env.locals != env.globals)) = false := by rw [fk]; rfl
  refine wpAny_storeName_local lk x.toInCall.ns (fun hh ns sb => ?_) pl
  refine h _ ⟨⟨?_, ns, fun b o e => ?_, x.toInCall.fresh⟩, fun y c hc => ?_, x.apart, x.above⟩ (Nat.succ_le_succ (Nat.zero_le _))
  · obtain ⟨_, tk, rfl⟩ := x.toInCall.same
    exact ⟨hh, _, rfl⟩
  · have lt : b ≠ env.locals := Nat.ne_of_lt (Nat.lt_of_lt_of_le (Heap.lt_size e) x.toInCall.fresh)
    exact sb.extBut b o lt (x.toInCall.keep b o e)
  · exact (x.cell y c hc).sameBut sb (Nat.ne_of_gt (x.above y c (PySem.mem_of_lookup hc)))
theorem bind_tok (f : Str × Value → PUnit → Sem (ForInStep PUnit)) (hf : ∀ n v u, f (n, v) u = (do storeName env n v; pure (.yield ⟨⟩))) (fk : env.scope.kind = .function) :
    ∀ (bs : List (Str × Value)) (m cm : Str → Option Value) (s : Shared) (Q : PUnit → Shared → Prop), InCallC sO env.locals m env.cells cm s →
      (∀ x ∈ bs, env.kindOf x.1 = some .local ∨ (env.kindOf x.1 = some .cell ∧ (env.cells.lookup x.1).isSome = true)) → (1 ≤ s.toks ∨ ∃ x ∈ bs, env.kindOf x.1 = some .local) →
      (∀ s', InCallC sO env.locals (bindL env.kindOf bs m) env.cells (bindC env.kindOf bs cm) s' → 1 ≤ s'.toks → Q ⟨⟩ s') → wpAny MM A (forIn bs ⟨⟩ f) Q E s
  | [], m, cm, s, Q, x, _, ht, h => by
    rw [List.forIn_nil]
    refine wpAny_pure (h s x ?_)
    rcases ht with ht | ⟨y, hy, _⟩
    · exact ht
    · cases hy
  | (n, v) :: r, m, cm, s, Q, x, kd, ht, h => by
    rw [List.forIn_cons, hf]
    have kr : ∀ y ∈ r, env.kindOf y.1 = some .local ∨ (env.kindOf y.1 = some .cell ∧ (env.cells.lookup y.1).isSome = true) := fun y hy => kd y (List.mem_cons_of_mem _ hy)
    rcases kd (n, v) List.mem_cons_self with hl | ⟨hl, hc⟩
    · refine wpAny_bind (wpAny_bind (store_tok x fk hl fun sa xa ta => wpAny_pure (bind_tok f hf fk r _ _ sa Q xa kr (.inl ta) fun sb xb tb => h sb ?_ tb)))
      unfold bindL bindC; rw [if_pos hl, if_pos hl]; exact xb
    · obtain ⟨c, hc⟩ := Option.isSome_iff_exists.mp hc
      have nl : ¬ env.kindOf n = some .local := by rw [hl]; decide
      have rest : ∀ sa, InCallC sO env.locals m env.cells (fun y => if y = n then some v else cm y) sa → s.toks ≤ sa.toks → wpAny MM A (forIn r ⟨⟩ f) Q E sa := fun sa xa le =>
        bind_tok f hf fk r _ _ sa Q xa kr (by
          rcases ht with ht | ⟨y, hy, hy2⟩
          · exact .inl (Nat.le_trans ht le)
          · rcases List.mem_cons.mp hy with e | hy
            · subst e; exact absurd hy2 nl
            · exact .inr ⟨y, hy, hy2⟩) fun sb xb tb => h sb (by unfold bindL bindC; rw [if_neg nl, if_neg nl]; exact xb) tb
      refine wpAny_bind (wpAny_bind (wpAny_mono (wpAny_toks (stCC (Q := fun _ sa => InCallC sO env.locals m env.cells (fun y => if y = n then some v else cm y) sa) x fk hl hc fun sa xa => xa)) (fun _ sa q => wpAny_pure (rest sa q.2 q.1)) fun _ _ q => q.2))
end
section
variable {MM : Model} {A : Around} {E : Value → Shared → Prop} {s : Shared}
theorem newEnv_tok {sc : Scope} {gl : Addr} {bs : List (Str × Value)} {qual : Str} {fu : Option Addr} {code : Value} {bt : Addr} {Q : Env → Shared → Prop} (fk : sc.kind = .function)
    (kd : ∀ x ∈ bs, sc.names.lookup x.1 = some .local ∨ (sc.names.lookup x.1 = some .cell ∧ ((cellsFrom (s.heap.objs.size + 1) sc.names []).lookup x.1).isSome = true)) (one : ∃ x ∈ bs, sc.names.lookup x.1 = some .local)
    (hQ : ∀ env, env = newEnv sc s.heap.objs.size gl (cellsFrom (s.heap.objs.size + 1) sc.names []) qual fu code none bt →
      ∀ sb, InCallC s env.locals (bindL env.kindOf bs fun _ => none) env.cells (bindC env.kindOf bs fun _ => none) sb → 1 ≤ sb.toks → Q env sb) :
    wpAny MM A (newFunctionEnv sc gl [] bs qual fu code none bt) Q E s := by
  simp only [newFunctionEnv, Option.isSome_none, Bool.false_eq_true, if_false]
  refine wpAny_bind (wpAny_alloc (wpAny_bind (wpAny_layCells _ (fun name kind cells => by cases z : kind == NameKind.cell <;> simp [z]) _ _ _ _ ?_)))
  have cok := cellsFrom_ok sc.names (s.heap.push { cls := .type "frame", data := .dict #[] }) (s.heap.objs.size + 1) [] ⟨fun _ _ hm => (nomatch hm), List.Pairwise.nil⟩ (by
    rw [Heap.size_push]; exact Nat.le_refl _)
  rw [Heap.size_push] at cok
  have esz : ({ s with heap := s.heap.push { cls := .type "frame", data := .dict #[] } } : Shared).heap.objs.size = s.heap.objs.size + 1 := Heap.size_push ..
  rw [esz]
  refine wpAny_bind (bind_tok (sO := s) (env := newEnv sc s.heap.objs.size gl (cellsFrom (s.heap.objs.size + 1) sc.names []) qual fu code none bt) _ (fun _ _ _ => rfl) fk bs (fun _ => none) (fun _ => none) _ _ ?_ kd (.inr one)
    fun sb x t => wpAny_pure (hQ _ rfl sb x t))
  exact ⟨⟨⟨_, _, rfl⟩, (Heap.Ns.new s.heap (.type "frame")).keeps (pushCells_keeps _ _), fun b o e => pushCells_keeps _ _ b o (Heap.get?_push_of_some _ e), Nat.le_refl _⟩,
    fun n c z => (cok.empty n c (PySem.mem_of_lookup z)).1, cok.apart, fun n c z => (cok.empty n c z).2⟩
end
end M
namespace M
open PySem PySem.Spec PyProof.Rows L2
/-- .. or a call of a name that is not super -/
def baseR : Expr → Bool
  | .Call (.Name x _) [] [] _ => x != ("super" : Str)
  | _ => true
theorem base_r {o : Expr} {m : Str} {env : Env} (h : baseR o = true) : attributeBase o m env (eval o env) = eval o env := by
  by_cases hb : baseE o = true
  · exact base_plain hb
  · cases o with
    | Call f as ks p =>
      cases f with
      | Name x q =>
        cases as with
        | nil =>
          cases ks with
          | nil =>
            have h : (x != ("super" : Str)) = true := h
            unfold attributeBase
            simp only [h, Bool.true_or, if_true]
          | cons _ _ => exact absurd rfl hb
        | cons _ _ => exact absurd rfl hb
      | _ => exact absurd rfl hb
    | _ => exact absurd rfl hb
/-- e.replace(.., ..) of written texts -/
def replM : ME → Option (ME × T × T)
  | .meth .replace o [.lit (.str y), .lit (.str z)] => some (o, y, z)
  | _ => none
theorem replM_ok {m o : ME} {y z : T} (h : replM m = some (o, y, z)) : m = .meth .replace o [.lit (.str y), .lit (.str z)] := by
  unfold replM at h
  split at h
  · cases h; rfl
  · cases h
def replE : Expr → Option (Expr × Str × Str)
  | .Call (.Attribute o nm apos) [.Constant (.str y) _ _, .Constant (.str z) _ _] [] pos => if nm == ("replace" : Str) && (apos.endLine == pos.line) then some (o, y, z) else none
  | _ => none
def okR (c : Ck) (m : ME) (e : Expr) : Bool := match replM m, replE e with
  | some (o, y, z), some (ob, y', z') => okE c o ob && baseR ob && (y'.cps.toList == y) && (z'.cps.toList == z) && !(y' == z')
  | _, _ => false
section
variable {X : Cx} {c : Ck} {k : Nat} {cl : CallFn}
theorem pet_ok (F : CF X c k cl) {m : ME} {e : Expr} (h : okR c m e = true) : PET X e (tM X.K (evE cl m)) ∧ compE e = false := by
  unfold okR at h
  cases hm : replM m with
  | none => rw [hm] at h; cases h
  | some q =>
    obtain ⟨o, y, z⟩ := q
    cases he : replE e with
    | none => rw [hm, he] at h; cases h
    | some q =>
      obtain ⟨ob, y', z'⟩ := q
      rw [hm, he] at h
      simp only [Bool.and_eq_true, Bool.not_eq_true', beq_iff_eq] at h
      obtain ⟨⟨⟨⟨h1, h2⟩, h3⟩, h4⟩, h5⟩ := h
      have em := replM_ok hm
      subst em h3 h4
      unfold replE at he
      split at he
      · split at he
        · rename_i hc
          cases he
          simp only [Bool.and_eq_true] at hc
          have en := eq_of_beq hc.1
          subst en
          refine ⟨fun pins s σ H Q h0 I q => ?_, rfl⟩
          refine CwR.pet_replC (ok_E o F h1).pe (by simpa using h5) rfl (base_r h2) hc.2 pins s σ H Q h0 I ?_
          refine tM_bind (g := fun ls v h => if recv .replace v h then (evEs cl [.lit (.str y'.cps.toList), .lit (.str z'.cps.toList)] ls h).bind fun vs h => evP .replace (v :: vs) h else .stuck) q fun v x S ls hK g l r p => ?_
          obtain ⟨cr, p⟩ := ite_of p
          cases v with
          | str s =>
            obtain ⟨rfl, a⟩ := r
            have p : Post S (if s.length + (s.length + 1) * z'.cps.toList.length ≤ SL ∧ y'.cps.toList ≠ z'.cps.toList then strR (PySem.Txt.replace (toS s) (toS y'.cps.toList) (toS z'.cps.toList)) S.h else .stuck) Q := p
            obtain ⟨cz, p⟩ := ite_of p
            refine ⟨_, rfl, ?_, ?_⟩
            · have e1 := cz.1
              have e2 : z'.length = z'.cps.toList.length := by simp [Str.length]
              rw [toS_len, e2]
              exact e1
            · have q := strR_of g p
              rw [toS_of, toS_of] at q
              exact q
          | _ => cases cr
        · cases he
      · cases he
end
/-! ### statements with a token out -/
mutual
def okST (c : Ck) : MS → Stmt → Bool
  | .asg [.name i] m, .Assign [.Name x p] e _ => okTg c (.name i) (.Name x p) && okR c m e
  | .ite t a b, .If e x y _ => okE c t e && tst t && (okBT c a x || okB c a x) && (okBT c b y || okB c b y)
  | _, _ => false
def okBT (c : Ck) : List MS → List Stmt → Bool
  | s :: r, st :: ss => (okS c s st || okST c s st) && okBT c r ss
  | [], [] => true
  | _, _ => false
end
section
variable {X : Cx} {c : Ck} {k : Nat} {cl : CallFn}
theorem PST.wkT {e : Stmt} {t t' : L2.TS} (h : PST X e t) (w : ∀ D σ H, t' D σ H → t D σ H) : PST X e t' := fun pins s σ H Q h0 I q => h pins s σ H Q h0 I (w Q σ H q)
theorem PSsT.wkT {e : List Stmt} {t t' : L2.TS} (h : PSsT X e t) (w : ∀ D σ H, t' D σ H → t D σ H) : PSsT X e t' := fun pins s σ H Q h0 I q => h pins s σ H Q h0 I (w Q σ H q)
theorem pst_setR (F : CF X c k cl) {i : Nat} {m : ME} {x : Str} {p pos : Pos} {e : Expr} (ht : okTg c (.name i) (.Name x p) = true) (he : okR c m e = true) : PST X (.Assign [.Name x p] e pos) (tS X.K (evS cl (.asg [.name i] m))) := by
  have h' := Bool.and_eq_true_iff.mp (show (_ && inL x c.st) = true from ht)
  obtain ⟨l1, l2⟩ := F.st x (inL_ok h'.2)
  have hN : X.N.Nodup := by rw [F.hN]; exact F.nd
  have hi : X.N[i]? = some x := by rw [F.hN]; exact nm_at h'.1
  obtain ⟨pe, hc⟩ := pet_ok F he
  intro pins s σ H D h0 I q
  rw [asg_name] at q
  have q : tAsg (tM X.K (evE cl m)) (gName i) D σ H := tAsg_M gok_name q
  refine wpAny_Assign_Name (thn (pe pins s σ H _ h0 I q) fun v sa ⟨y, Ha, Ia, ra, qa⟩ => ?_) (swap_plain hc)
  exact store_ok Ia hN hi l1 ra (fun sb Ib => ⟨_, Ha, Ib, qa⟩) l2
mutual
theorem ok_ST (F : CF X c k cl) (hp : PassesOwn (model X.prog X.w) X.A X.env X.xe) : ∀ (s : MS) {st : Stmt}, okST c s st = true → PST X st (tS X.K (evS cl s))
  | .asg ts m, st, h => by
    cases st with
    | Assign tgs e pos =>
      cases ts with
      | nil => cases h
      | cons t r =>
        cases r with
        | cons _ _ => cases t <;> cases h
        | nil =>
          cases t with
          | name i =>
            cases tgs with
            | nil => cases h
            | cons tg more =>
              cases more with
              | cons _ _ => cases tg <;> cases h
              | nil =>
                cases tg with
                | Name x p =>
                  have h1 := Bool.and_eq_true_iff.mp (show (okTg c (.name i) (.Name x p) && okR c m e) = true from h)
                  exact pst_setR F h1.1 h1.2
                | _ => cases h
          | _ => cases h
    | _ =>
      cases ts with
      | nil => cases h
      | cons t r => cases r <;> cases t <;> cases h
  | .ite t a b, st, h => by
    cases st with
    | If e x y pos =>
      have h1 := Bool.and_eq_true_iff.mp (show (((okE c t e && tst t) && (okBT c a x || okB c a x)) && (okBT c b y || okB c b y)) = true from h)
      have h2 := Bool.and_eq_true_iff.mp h1.1
      have h3 := Bool.and_eq_true_iff.mp h2.1
      have ha : PSsT X x (tS X.K (evB cl a)) := (Bool.or_eq_true_iff.mp h2.2).elim (fun z => ok_BT F hp a z) fun z => PSsT.of (ok_B F hp a z)
      have hb : PSsT X y (tS X.K (evB cl b)) := (Bool.or_eq_true_iff.mp h1.2).elim (fun z => ok_BT F hp b z) fun z => PSsT.of (ok_B F hp b z)
      exact PST.wkT (CwR.pst_if ((ok_E t F h3.1).pt h3.2) ha hb) fun D σ H q => tIfS_M q
    | _ => cases h
  | .par _ _, st, h => by cases st <;> cases h
  | .asg2 _ _ _, st, h => by cases st <;> cases h
  | .aug _ _ _, st, h => by cases st <;> cases h
  | .expr _, st, h => by cases st <;> cases h
  | .wh _ _, st, h => by cases st <;> cases h
  | .for _ _ _, st, h => by cases st <;> cases h
  | .ret _, st, h => by cases st <;> cases h
  | .kill _, st, h => by cases st <;> cases h
  | .brk, st, h => by cases st <;> cases h
theorem ok_BT (F : CF X c k cl) (hp : PassesOwn (model X.prog X.w) X.A X.env X.xe) : ∀ (b : List MS) {ss : List Stmt}, okBT c b ss = true → PSsT X ss (tS X.K (evB cl b))
  | [], ss, h => by
    cases ss with
    | nil => exact PSsT.of (PSs.wk pss_nil fun D σ H q => tNext_M q)
    | cons _ _ => cases h
  | s :: r, ss, h => by
    cases ss with
    | nil => cases h
    | cons st ss =>
      have h1 := Bool.and_eq_true_iff.mp (show ((okS c s st || okST c s st) && okBT c r ss) = true from h)
      have hs : PST X st (tS X.K (evS cl s)) := (Bool.or_eq_true_iff.mp h1.1).elim (fun z => PST.of (ok_S F hp s z)) fun z => ok_ST F hp s z
      refine PSsT.wkT (psst_cons hs (ok_BT F hp r h1.2)) fun D σ H q => ?_
      rw [evB_cons] at q
      exact tSeq_M q
end
end
end M
namespace M
open PySem PySem.Spec PyProof.Rows L2
section
variable {P : Program} {w : World} {K : PySem.W.Frag} {mg : Str → Option Value} {base : PySem.Heap}
theorem fnG_ofT {c : Ck} {k : Nat} {cl : CallFn} (M : MF P w K mg base c k cl) {x qual : Str} {pa : Arguments} {body : List Stmt} {dvs : List V} {kws : List (Str × V)} {f : Addr} {fd : FuncData} {ps : List Str} {fn : Fn}
    (F : FunD K x qual pa body c.sc dvs kws f fd) (S : scopeOk c.N ps c.sc = true) (hst : c.st.all (locB c.sc) = true) (hn : fn.n = ps.length) (hsl : fn.slots = c.N.length) (one : ps.any (fun x => decide (c.sc.names.lookup x = some .local)) = true) (hb : okBT c fn.body body = true) :
    FnG P w K mg base (k + 1) f fd ps (runF cl fn) := by
  have SC := scope_ok S
  have hpl : ps.length ≤ c.N.length := by
    have z := congrArg List.length SC.pre
    rw [List.length_take] at z
    omega
  intro A outer s S0 args us xs vs Q hr hgd hK g e0 hB r rv p
  obtain ⟨oc, od, dV, kV, doc, pm, an, cdv, ct, osl, efd, lk, hcd, _, _⟩ := F.ex
  have hvn : vs.length = fn.n := by
    unfold runF at p
    by_cases z : vs.length = fn.n
    · exact z
    · rw [if_neg z] at p; exact p.elim
  have hxl : xs.length = ps.length := by rw [← rv.len, hvn, hn]
  have KX : K.In s.heap := e0.mod.kin.keeps fun b o e => (e0.bs b o e).1
  have lim : s.heap.NoLimit := e0.mod.nolimit.keeps fun b o e => (e0.bs b o e).1
  have hkd : ∀ y ∈ ps.zip us, c.sc.names.lookup y.1 = some .local ∨ (c.sc.names.lookup y.1 = some .cell ∧ ((cellsFrom (s.heap.objs.size + 1) c.sc.names []).lookup y.1).isSome = true) := fun y hy =>
    (SC.par y.1 (List.of_mem_zip (a := y.1) (b := y.2) hy).1).imp id fun q => ⟨q, PySem.W.cellsFrom_some _ _ _ (.inl q)⟩
  have hone : ∃ y ∈ ps.zip us, c.sc.names.lookup y.1 = some .local := by
    obtain ⟨x, h1, h2⟩ := List.any_eq_true.mp one
    obtain ⟨i, hi⟩ := List.getElem?_of_mem h1
    have hu : us.length = ps.length := by rw [← r.length, hxl]
    have hiu : i < us.length := by rw [hu]; exact (List.getElem?_eq_some_iff.mp hi).1
    refine ⟨(x, us[i]), ?_, of_decide_eq_true h2⟩
    refine List.mem_of_getElem? (i := i) ?_
    rw [List.getElem?_zip_eq_some]
    exact ⟨hi, List.getElem?_eq_getElem hiu⟩
  subst efd
  refine codeAny_call_function hr.depth (KX _ _ lk) rfl SC.co SC.gen rfl (PySem.W.codeRec_of KX hcd) (hB _ _ _ _ (newEnv_tok SC.kind hkd hone fun env he sa ic tk => ?_))
  subst he
  refine ⟨lim.keeps ic.toInCall.keep, codeAny_func ?_⟩
  have CFx := cf_of M (qual := qual) (f := f) (cdv := cdv) (outer := outer) (s := s) (H := S0.H) rfl SC (fun x hx => (List.all_eq_true.mp hst) x hx) (hr.deeper _) hgd
  have pb := ok_BT CFx (passes_of (K := fun e s'' => CXF outer S0.H s EF e s'') rfl) fn.body hb
  have I0 : Inv (cxOf CXF P w K mg base c.N qual c.sc f cdv A outer s S0.H EF) [] (L2.start c.N xs) S0.H sa := inv_start SC hr.hd e0 hxl r ic
  have start : tS K (evB cl fn.body) { nx := fun _ H' => Q .non H', rt := Q } (L2.start c.N xs) S0.H := ⟨S0, _, hK, rfl, g, start_rel rv hsl (by rw [hvn, hn]; exact hpl), run_end g hvn p⟩
  refine wpAny_mono (pb [] sa _ S0.H _ tk I0 start) (fun fl sb hs => ?_) fun e sb hs => hs
  have done : ∀ {σ' : L2.St} {H' : Hp} {v : V} {u : Value}, Inv (cxOf CXF P w K mg base c.N qual c.sc f cdv A outer s S0.H EF) [] σ' H' sb → RelV v u → Q v H' → CE outer P w S0.H s Q u sb := fun {σ' H' v u} J ru q => ⟨v, H', J.os, J.bare, J.base, J.hok, ru, q⟩
  cases fl with
  | ret u => obtain ⟨v, _, _, J, ru, q⟩ := hs; exact done J ru q
  | next => obtain ⟨_, _, J, q⟩ := hs; exact done (v := V.non) (u := Value.none) J rfl q
  | brk => obtain ⟨_, _, _, q⟩ := hs; exact q.elim
  | cont => obtain ⟨_, _, _, q⟩ := hs; exact q.elim
end
end M
namespace M
open PySem PySem.Spec PyProof.Rows L2
/-! ### all defs of a module -/
structure DE where
  x : Str
  ps : List Str
  N : List Str
  st : List Str
  shapes : List Shape
  fn : Fn
  pa : Arguments
  body : List Stmt
  sc : Scope
def ckOf (ds : List DE) (gls : List (Str × Val)) (bl : List Str) (d : DE) : Ck := ⟨d.N, d.sc, d.st, ds.map (fun e => ⟨e.x, e.shapes⟩), gls, bl⟩
def okD (ds : List DE) (gls : List (Str × Val)) (bl : List Str) (d : DE) : Bool :=
  scopeOk d.N d.ps d.sc && d.st.all (locB d.sc) && (d.fn.n == d.ps.length) && (d.fn.slots == d.N.length) && (okB (ckOf ds gls bl d) d.fn.body d.body || (d.ps.any (fun x => decide (d.sc.names.lookup x = some .local)) && okBT (ckOf ds gls bl d) d.fn.body d.body))
def tabOf (ds : List DE) : Tab := fun i => (ds[i]?).map (·.fn)
section
variable {P : Program} {w : World} {K : PySem.W.Frag} {mg : Str → Option Value} {base : PySem.Heap}
/-- what stands of a def -/
def DefAt (K : PySem.W.Frag) (mg : Str → Option Value) (d : DE) : Prop := ∃ (dvs : List V) (kws : List (Str × V)) (f : Addr) (fd : FuncData), mg d.x = some (.ref f) ∧ FunD K d.x d.x d.pa d.body d.sc dvs kws f fd ∧ ∀ sh ∈ d.shapes, Bnd K fd d.ps sh
theorem all_defs {ds : List DE} {gls : List (Str × Val)} {bl : List Str} (hc : ds.all (okD ds gls bl) = true) (hd : ∀ d ∈ ds, DefAt K mg d) (hbl : ∀ x ∈ bl, mg x = none) (hgl : ∀ p ∈ gls, ∃ u y, mg p.1 = some u ∧ RelV y u ∧ ∀ S : RS, S.K = K → Rel S p.2 y) :
    ∀ k (d : DE), MF P w K mg base (ckOf ds gls bl d) k (callN (tabOf ds) k)
  | 0, d => ⟨hbl, hgl, fun i e he => by
    have he : (ds.map fun e => (⟨e.x, e.shapes⟩ : FnS))[i]? = some e := he
    rw [List.getElem?_map] at he
    obtain ⟨d', e1, rfl⟩ := Option.map_eq_some_iff.mp he
    obtain ⟨dvs, kws, f, fd, h1, h2, h3⟩ := hd d' (List.mem_of_getElem? e1)
    exact ⟨f, fd, d'.ps, h1, h2.kp, h3, fun A outer s S args us xs vs Q _ _ _ _ _ _ _ _ p => p.elim⟩⟩
  | k + 1, d => ⟨hbl, hgl, fun i e he => by
    have he : (ds.map fun e => (⟨e.x, e.shapes⟩ : FnS))[i]? = some e := he
    rw [List.getElem?_map] at he
    obtain ⟨d', e1, rfl⟩ := Option.map_eq_some_iff.mp he
    obtain ⟨dvs, kws, f, fd, h1, h2, h3⟩ := hd d' (List.mem_of_getElem? e1)
    refine ⟨f, fd, d'.ps, h1, h2.kp, h3, ?_⟩
    have ok := (List.all_eq_true.mp hc) d' (List.mem_of_getElem? e1)
    unfold okD at ok
    obtain ⟨ok, o5⟩ := Bool.and_eq_true_iff.mp ok
    simp only [Bool.and_eq_true, beq_iff_eq] at ok
    obtain ⟨⟨⟨o1, o2⟩, o3⟩, o4⟩ := ok
    have q : FnG P w K mg base (k + 1) f fd d'.ps (runF (callN (tabOf ds) k) d'.fn) := by
      rcases Bool.or_eq_true_iff.mp o5 with o5 | o5
      · exact fnG_of (c := ckOf ds gls bl d') (all_defs hc hd hbl hgl k d') h2 o1 o2 o3 o4 o5
      · have o6 := Bool.and_eq_true_iff.mp o5
        exact fnG_ofT (c := ckOf ds gls bl d') (all_defs hc hd hbl hgl k d') h2 o1 o2 o3 o4 o6.1 o6.2
    have e2 : callN (tabOf ds) (k + 1) i = runF (callN (tabOf ds) k) d'.fn := by
      funext vs h
      show (match tabOf ds i with
        | some fn => runF (callN (tabOf ds) k) fn vs h
        | none => .stuck) = _
      have e3 : tabOf ds i = some d'.fn := by
        unfold tabOf
        rw [e1]
        rfl
      rw [e3]
    rw [e2]
    exact q⟩
end
end M
namespace M
open PySem PySem.Spec PyProof.Rows L2
/-! ### the law is called -/
theorem ints_rels {S : RS} : ∀ ns : List Int, Rels S (ns.map Val.int) (ns.map V.int)
  | [] => rfl
  | n :: r => ⟨.int n, _, rfl, rfl, ints_rels r⟩
/-- it answers True -/
def Says (cl : List Val → Heap → Res Val) (ns : List Int) : Prop := ∃ h, cl [.scr (ns.map Val.int)] [] = .ok (.bool true) h
theorem law_runG {P : Program} {w : World} {K : PySem.W.Frag} {mg mb : Str → Option Value} {k : Nat} {fa la : Addr} {fd : FuncData} {x : Str} {cl : List Val → Heap → Res Val} {sb : Shared} {its : List Value} {ns : List Int}
    (inK : K.In sb.heap) (ng : sb.heap.Ns mainGlobals mg) (nb : sb.heap.Ns builtinsNs mb) (bb : ∀ y : Str, y ≠ "__name__" → mb y = bootBuiltins y) (lim : sb.heap.NoLimit) (gens0 : sb.gens = #[])
    (hla : sb.heap.get? la = some { cls := .type "list", data := .seq its.toArray }) (areI : IntsAre its ns) (len : ns.length ≤ sizeLine) (room : Room k callerA)
    (prom : ∀ base : PySem.Heap, K.In base → base.Ns mainGlobals mg → FnG P w K mg base k fa fd [x] cl) (bnd : ∀ (s : Shared) (u : Value), BindsTo s fd ⟨[u], []⟩ [(x, u)]) (hsay : Says cl ns) :
    codeAny (model P w) callerA (.call (.ref fa) ⟨[.ref la], []⟩) (fun r s' => r = .ok (.ret (.bool true)) ∧ OldK sb.heap s'.heap ∧ s'.os = sb.os ∧ AllBare s'.gens) sb := by
  have rels := vals_ints areI
  have same_len := areI.length
  have main : ∀ H : Hp, Only H → Scr ⟨K, [], [], H, []⟩ la (ns.map V.int) → HOk P w H sb.heap → (∀ b, H b ≠ none → b = la) → (H la ≠ none → K.lookup la = none) →
      codeAny (model P w) callerA (.call (.ref fa) ⟨[.ref la], []⟩) (fun r s' => r = .ok (.ret (.bool true)) ∧ OldK sb.heap s'.heap ∧ s'.os = sb.os ∧ AllBare s'.gens) sb := by
    intro H only scr ok one notK
    have put : ∀ {b : Addr} {o : PySem.Obj}, sb.heap.get? b = some o → H b = none → (hidT sb.heap H).get? b = some o := fun e n => hidT_get e n
    have noD : ∀ {b : Addr} {o : PySem.Obj} {es : Array DictEntry} {ep : Nat}, sb.heap.get? b = some o → o.data = .dict es ep → H b = none := fun {b o es ep} e d => by
      cases q : H b with
      | none => rfl
      | some u =>
        have eb : b = la := one b (by rw [q]; simp)
        subst eb
        rw [hla] at e; cases e
        have dd : Data.seq its.toArray _ = Data.dict es ep := d
        cases dd
    have keepNs : ∀ {b : Addr} {m : Str → Option Value}, sb.heap.Ns b m → (hidT sb.heap H).Ns b m := fun {b m} ⟨o, es, ep, e, d, r⟩ => ⟨o, es, ep, put e (noD e d), d, r⟩
    have inB : K.In (hidT sb.heap H) := fun b o e => put (inK b o e) (by
      cases q : H b with
      | none => rfl
      | some u =>
        have eb : b = la := one b (by rw [q]; simp)
        subst eb
        rw [notK (by rw [q]; simp)] at e; cases e)
    have md : Mod K mg (hidT sb.heap H) := ⟨inB, keepNs ng, ⟨mb, keepNs nb, bb⟩, let ⟨mc, h1, h2⟩ := lim; ⟨mc, keepNs h1, h2⟩⟩
    have en : Env0 P w K mg (hidT sb.heap H) callerA [] sb H := ⟨rfl, md, fun b o e => of_hidT e, Nat.le_of_eq (hidT_size _ _), trivial, fun b hb => absurd (show b ∈ ([] : List Addr) from hb) (by simp), ok, .of_eq gens0⟩
    have good : Good ⟨K, [], [], H, []⟩ := ⟨rfl, .nil, fun i o a h1 => by simp at h1, fun a m => by simp at m⟩
    obtain ⟨hh, say⟩ := hsay
    have post : Post ⟨K, [], [], H, []⟩ (cl [.scr (ns.map Val.int)] []) (fun v _ => v = .bl true) := by
      rw [say]
      exact fun S' v _ _ _ r => r
    refine codeAny_mono (prom _ inB (keepNs ng) callerA [] sb ⟨K, [], [], H, []⟩ ⟨[.ref la], []⟩ [.ref la] [.ref la] [.scr (ns.map Val.int)] _ room rfl rfl good en (bnd sb (.ref la)) (.cons rfl .nil) ⟨.ref la, [], rfl, ⟨la, _, rfl, scr, ints_rels ns⟩, rfl⟩ post) fun r s' h => ?_
    cases r with
    | error e => exact False.elim h
    | ok fl =>
      cases fl with
      | next => exact False.elim h
      | brk => exact False.elim h
      | cont => exact False.elim h
      | ret u =>
        obtain ⟨v, Hz, os, bare, un, okz, ru, ev⟩ := h
        have ev : v = .bl true := ev
        subst ev
        cases (show u = Value.bool true from ru)
        refine ⟨rfl, OldK.of_keep fun b o e => ?_, os, bare⟩
        cases q : H b with
        | none => exact un.keep b o e q (fun z => absurd (show b ∈ ([] : List Addr) from z) (by simp)) (by simp)
        | some u =>
          rcases only b with z | ⟨ob, xs, z⟩
          · rw [q] at z; cases z
          · obtain ⟨e1, _⟩ := ok b _ z
            obtain ⟨e2, _⟩ := okz b _ (un.frzs b ob _ z)
            rw [e] at e1; cases e1
            exact e2
  cases hk : K.lookup la with
  | some o =>
    have e := inK la o hk
    rw [hla] at e
    cases e
    refine main (fun _ => none) (fun _ => .inl rfl) (.inr ⟨_, its.toArray, _, hk, rfl, rfl, rfl, by rw [List.size_toArray, same_len]; exact len, by simpa using rels⟩) (fun b u z => by
      have zz : (none : Option HO) = some u := z
      cases zz) (fun b z => absurd rfl z) fun z => absurd rfl z
  | none =>
    refine main (fun b => if b = la then some (.frz { cls := .type "list", data := .seq its.toArray } (.lst (ns.map V.int))) else none) (fun b => ?_) (.inl ⟨{ cls := .type "list", data := .seq its.toArray }, if_pos rfl, fun l => ?_⟩) (fun b u z => ?_) (fun b z => ?_) fun _ => hk
    · by_cases hb : b = la
      · exact .inr ⟨_, _, if_pos hb⟩
      · exact .inl (if_neg hb)
    · rcases l with ⟨i, o, h1, _⟩ | m
      · simp at h1
      · simp at m
    · by_cases hb : b = la
      · have zz := (if_pos hb).symm.trans z
        cases zz
        subst hb
        exact ⟨hla, by rw [List.length_map]; exact len, its, _, rels, hla⟩
      · have zz := (if_neg hb).symm.trans z
        cases zz
    · by_cases hb : b = la
      · exact hb
      · exact absurd (if_neg hb) z
/-- the walk's end -/
theorem walk_ofG {l : PySem.W.OpenLaw} {n k : Nat} {q : Program} {loose : List Str} {XP : (Str → Option Value) → PySem.Heap → Prop} {YP : World → PySem.Heap → Prop} {d : DefRec} {x : Str}
    (hn : l.most = some n) (hn2 : n ≤ sizeLine) (hdf : d.params.defaults = []) (room : Room k callerA)
    (F : ∀ (w : World) (mg : Str → Option Value) (fa : Addr) (h : PySem.Heap), YP w h → h.Ns mainGlobals mg → mg d.name = some (.ref fa) →
      ∃ (K : PySem.W.Frag) (fd : FuncData) (cl : List Val → Heap → Res Val), K.In h ∧ (∀ (s : Shared) (u : Value), BindsTo s fd ⟨[u], []⟩ [(x, u)]) ∧ (∀ ns : List Int, ns.length ≤ n → Says cl ns) ∧
        ∀ base : PySem.Heap, K.In base → base.Ns mainGlobals mg → FnG l.prog w K mg base k fa fd [x] cl) :
    PySem.W.WalkO q loose XP YP l.row.toRowW d [] (fun f vs => PySem.call f vs) := by
  refine Att.attach_call hn hdf fun w s₀ sb mg mb fa o pm cd doc a its ns G Y ho hd hcd hmg hobj hints hlen hg => ?_
  obtain ⟨K, fd, cl, KX, hb, say, pr⟩ := F w mg fa _ Y G.T.g hmg
  exact law_runG KX G.T.g G.T.b G.T.builtins G.T.nolimit hg hobj hints (Nat.le_trans hlen hn2) room pr hb (say ns hlen)
end M
namespace M
open PySem PySem.Spec PyProof.Rows L2
/-! ### the head's facts, for a module of small texts -/
mutual
/-- the object is what the value says -/
def valB (K : PySem.W.Frag) : Val → Value → Bool
  | .none, .none => true
  | .bool b, .bool c => b == c
  | .int i, .int j _ => decide (i = j)
  | .str s, .str y _ => (y.cps.toList == s) && asc s
  | .tup xs, .ref a => (match K.lookup a with
    | some ⟨.type c, _, .seq its _, _⟩ => decide (c = "tuple") && (decide (its.size ≤ sizeLine) && valsB K xs its.toList)
    | _ => false)
  | _, _ => false
def valsB (K : PySem.W.Frag) : List Val → List Value → Bool
  | [], [] => true
  | v :: r, u :: us => valB K v u && valsB K r us
  | _, _ => false
end
mutual
theorem valB_ok {K : PySem.W.Frag} : ∀ {v : Val} {u : Value}, valB K v u = true → ∃ y, RelV y u ∧ ∀ S : RS, S.K = K → Rel S v y
  | .none, u, h => by
    cases u with
    | none => exact ⟨.non, rfl, fun _ _ => rfl⟩
    | _ => cases h
  | .bool b, u, h => by
    cases u with
    | bool c => exact ⟨.bl b, by rw [eq_of_beq (show (b == c) = true from h)]; rfl, fun _ _ => rfl⟩
    | _ => cases h
  | .int i, u, h => by
    cases u with
    | int j t => exact ⟨.int i, ⟨t, by rw [of_decide_eq_true (show decide (i = j) = true from h)]⟩, fun _ _ => rfl⟩
    | _ => cases h
  | .str s, u, h => by
    cases u with
    | str y t =>
      obtain ⟨h1, h2⟩ := Bool.and_eq_true_iff.mp (show ((y.cps.toList == s) && asc s) = true from h)
      have e : y = toS s := by
        have := eq_of_beq h1
        rw [← this]; rw [toS_of]
      exact ⟨.str (toS s), ⟨t, by rw [e]⟩, fun _ _ => ⟨rfl, h2⟩⟩
    | _ => cases h
  | .tup xs, u, h => by
    cases u with
    | ref a =>
      have h : (match K.lookup a with
        | some ⟨.type c, _, .seq its _, _⟩ => decide (c = "tuple") && (decide (its.size ≤ sizeLine) && valsB K xs its.toList)
        | _ => false) = true := h
      cases q : K.lookup a with
      | none => rw [q] at h; cases h
      | some o =>
        obtain ⟨oc, od, dt, osl⟩ := o
        rw [q] at h
        cases oc with
        | type c =>
          cases dt with
          | seq its n =>
            obtain ⟨h1, h2⟩ := Bool.and_eq_true_iff.mp (show (decide (c = "tuple") && (decide (its.size ≤ sizeLine) && valsB K xs its.toList)) = true from h)
            obtain ⟨h3, h4⟩ := Bool.and_eq_true_iff.mp h2
            obtain ⟨ys, r1, r2⟩ := valsB_ok h4
            refine ⟨.ref a, rfl, fun S hS => ⟨a, ys, rfl, .inr ⟨_, its, n, by rw [hS]; exact q, congrArg Value.type (of_decide_eq_true h1), rfl, of_decide_eq_true h3, r1⟩, r2 S hS⟩⟩
          | _ => cases h
        | _ => cases dt <;> cases h
    | _ => cases h
  | .list _, _, h => by cases h
  | .dict _ _, _, h => by cases h
  | .obj _ _ _, _, h => by cases h
  | .ref _, _, h => by cases h
  | .fn _, _, h => by cases h
  | .cls _, _, h => by cases h
  | .ty _, _, h => by cases h
  | .scr _, _, h => by cases h
theorem valsB_ok {K : PySem.W.Frag} : ∀ {vs : List Val} {us : List Value}, valsB K vs us = true → ∃ ys, Vals ys us ∧ ∀ S : RS, S.K = K → Rels S vs ys
  | [], us, h => by
    cases us with
    | nil => exact ⟨[], .nil, fun _ _ => rfl⟩
    | cons _ _ => cases h
  | v :: r, us, h => by
    cases us with
    | nil => cases h
    | cons u us =>
      obtain ⟨h1, h2⟩ := Bool.and_eq_true_iff.mp (show (valB K v u && valsB K r us) = true from h)
      obtain ⟨y, a1, a2⟩ := valB_ok h1
      obtain ⟨ys, b1, b2⟩ := valsB_ok h2
      exact ⟨y :: ys, .cons a1 b1, fun S hS => ⟨y, ys, rfl, a2 S hS, b2 S hS⟩⟩
end
def glF (K : PySem.W.Frag) (p : Str × Val) : Bool := match PySem.W.nsIn K mainGlobals p.1 with
  | some (some u) => valB K p.2 u
  | _ => false
def blF (K : PySem.W.Frag) (x : Str) : Bool := He.eqO (PySem.W.nsIn K mainGlobals x) (some none)
/-- a def's datum for the head -/
structure DX where
  d : DE
  dfl : List He.Dv := []
  kwd : List (Str × He.Dv) := []
def DX.dd (e : DX) : He.DefD := ⟨(e.d.x, none), e.d.x, e.d.x, e.d.pa, e.d.body, e.d.sc, e.dfl, e.kwd⟩
def dxF (K : PySem.W.Frag) (e : DX) : Bool := He.eqO (PySem.W.nsIn K mainGlobals e.d.x) (some (some (.ref (He.ga K e.d.x)))) && e.dd.ok K
def okF (es : List DX) (gls : List (Str × Val)) (bls : List Str) (K : PySem.W.Frag) : Bool := gls.all (glF K) && (bls.all (blF K) && es.all (dxF K))
def obsF (es : List DX) (gls : List (Str × Val)) (bls : List Str) (K : PySem.W.Frag) : He.AlD := (okF es gls bls K, es.map fun e => He.fnW K (e.d.x, none))
def valF (es : List DX) : He.AlD := (true, es.map fun e => e.dd.val)
def SaysF (es : List DX) (gls : List (Str × Val)) (bls : List Str) (K : PySem.W.Frag) : Prop := obsF es gls bls K = valF es
def obsFG (n : Nat) (es : List DX) (gls : List (Str × Val)) (bls : List Str) (g : Addr → Option PySem.Obj) : He.AlD := obsF es gls bls (He.frG g (He.asD g n))
def hookF (n : Nat) (es : List DX) (gls : List (Str × Val)) (bls : List Str) : PySem.W.Hook where
  α := He.AlD
  obs := fun s => obsFG n es gls bls s.heap.get?
  val := fun _ => valF es
  says := fun _ h => ∃ K : PySem.W.Frag, K.In h ∧ SaysF es gls bls K
  of := fun _ _ e => ⟨_, He.frG_in, e⟩
  keeps := fun _ _ _ ⟨K, hK, c⟩ k => ⟨K, PySem.W.Frag.In.keeps hK k, c⟩
theorem obsFG_eq {n : Nat} {es : List DX} {gls : List (Str × Val)} {bls : List Str} {g : Addr → Option PySem.Obj} {s : Shared} (h : ∀ a, g a = s.heap.get? a) : obsFG n es gls bls g = (hookF n es gls bls).obs s := by
  have e : g = s.heap.get? := funext h
  rw [e] <;> rfl
section
variable {P : Program} {w : World} {K : PySem.W.Frag} {mg : Str → Option Value} {h : PySem.Heap} {es : List DX} {gls : List (Str × Val)} {bls : List Str}
theorem SaysF.parts (c : SaysF es gls bls K) : (∀ p ∈ gls, glF K p = true) ∧ (∀ x ∈ bls, blF K x = true) ∧ ∀ e ∈ es, dxF K e = true := by
  have c1 : okF es gls bls K = true := congrArg (fun z : He.AlD => z.1) c
  obtain ⟨h1, h2⟩ := Bool.and_eq_true_iff.mp c1
  obtain ⟨h3, h4⟩ := Bool.and_eq_true_iff.mp h2
  exact ⟨List.all_eq_true.mp h1, List.all_eq_true.mp h3, List.all_eq_true.mp h4⟩
/-- how each def's calls bind -/
def Binders (es : List DX) : Prop := ∀ e ∈ es, ∀ (K : PySem.W.Frag) (f : Addr) (fd : FuncData), FunD K e.d.x e.d.x e.d.pa e.d.body e.d.sc (e.dd.dvs K) (e.dd.kws K) f fd → ∀ sh ∈ e.d.shapes, Bnd K fd e.d.ps sh
theorem SaysF.defAt (X : K.In h) (G : h.Ns mainGlobals mg) (c : SaysF es gls bls K) (hb : Binders es) : ∀ d ∈ es.map DX.d, DefAt K mg d := by
  intro d hd
  obtain ⟨e, he, rfl⟩ := List.mem_map.mp hd
  have q := c.parts.2.2 e he
  obtain ⟨q1, q2⟩ := Bool.and_eq_true_iff.mp q
  obtain ⟨i, hi⟩ := List.getElem?_of_mem he
  have e1 : es.map (fun e => He.fnW K (e.d.x, none)) = es.map fun e => e.dd.val := congrArg (fun z : He.AlD => z.2) c
  have e2 : (es.map (fun e => He.fnW K (e.d.x, none)))[i]? = (es.map fun e => e.dd.val)[i]? := by rw [e1]
  rw [List.getElem?_map, List.getElem?_map, hi] at e2
  obtain ⟨fd, F⟩ := He.DefD.funD (d := e.dd) (Option.some.inj e2) q2
  exact ⟨_, _, _, fd, PySem.W.mg_of X G (He.eqO_ok q1), F, hb e he K _ fd F⟩
theorem SaysF.bl (X : K.In h) (G : h.Ns mainGlobals mg) (c : SaysF es gls bls K) : ∀ x ∈ bls, mg x = none := fun x hx => PySem.W.mg_none_of X G (He.eqO_ok (c.parts.2.1 x hx))
theorem SaysF.gl (X : K.In h) (G : h.Ns mainGlobals mg) (c : SaysF es gls bls K) : ∀ p ∈ gls, ∃ u y, mg p.1 = some u ∧ RelV y u ∧ ∀ S : RS, S.K = K → Rel S p.2 y := fun p hp => by
  have q := c.parts.1 p hp
  unfold glF at q
  cases e : PySem.W.nsIn K mainGlobals p.1 with
  | none => rw [e] at q; cases q
  | some o =>
    rw [e] at q
    cases o with
    | none => cases q
    | some u =>
      obtain ⟨y, r1, r2⟩ := valB_ok q
      exact ⟨u, y, PySem.W.mg_of X G e, r1, r2⟩
/-- the law's def, as the walk's end wants it; the law is the first of the defs -/
theorem facts (hc : (es.map DX.d).all (okD (es.map DX.d) gls bls) = true) (hb : Binders es) {d : DX} {r : List DX} {x : Str} {k : Nat} {fa : Addr} (he : es = d :: r) (hx : d.d.ps = [x]) (hd0 : d.dfl = [])
    (hbind : ∀ (kV doc pm : Value) (an : Option Addr) (cdv ct : Value) (us : List Value), us.length = [x].length → bindArgs (PySem.W.fnOf d.d.x d.d.x d.d.pa d.d.body d.d.sc .none kV doc pm an cdv ct) ⟨us, []⟩ = pure ([x].zip us))
    (X : K.In h) (G : h.Ns mainGlobals mg) (c : SaysF es gls bls K) (hfa : mg d.d.x = some (.ref fa)) :
    ∃ fd : FuncData, (∀ (s : Shared) (u : Value), BindsTo s fd ⟨[u], []⟩ [(x, u)]) ∧ ∀ base : PySem.Heap, K.In base → base.Ns mainGlobals mg → FnG P w K mg base (k + 1) fa fd [x] (callN (tabOf (es.map DX.d)) (k + 1) 0) := by
  subst he
  have q := c.parts.2.2 d List.mem_cons_self
  obtain ⟨q1, q2⟩ := Bool.and_eq_true_iff.mp q
  have e1 : (d :: r).map (fun e => He.fnW K (e.d.x, none)) = (d :: r).map fun e => e.dd.val := congrArg (fun z : He.AlD => z.2) c
  obtain ⟨fd, F⟩ := He.DefD.funD (d := d.dd) (List.cons.inj e1).1 q2
  have e2 := hfa.symm.trans (PySem.W.mg_of X G (He.eqO_ok q1))
  have F' : FunD K d.d.x d.d.x d.d.pa d.d.body d.d.sc [] (d.dd.kws K) (He.fAd K d.dd.at_) fd := by
    have e3 : d.dd.dvs K = [] := by show d.dfl.map _ = []; rw [hd0]; rfl
    rw [← e3]; exact F
  refine ⟨fd, fun s u => FunD.bindsA F' hbind s [u] rfl, fun base KB GB => ?_⟩
  have mf := all_defs (P := P) (w := w) (base := base) hc (c.defAt X G hb) (c.bl X G) (c.gl X G) k d.d
  have ok := (List.all_eq_true.mp hc) d.d List.mem_cons_self
  unfold okD at ok
  obtain ⟨ok, o5⟩ := Bool.and_eq_true_iff.mp ok
  simp only [Bool.and_eq_true, beq_iff_eq] at ok
  obtain ⟨⟨⟨o1, o2⟩, o3⟩, o4⟩ := ok
  have ef : fa = He.fAd K d.dd.at_ := by cases e2; rfl
  rw [ef, ← hx]
  show FnG P w K mg base (k + 1) _ fd d.d.ps (runF (callN (tabOf ((d :: r).map DX.d)) k) d.d.fn)
  rcases Bool.or_eq_true_iff.mp o5 with o5 | o5
  · exact fnG_of (c := ckOf ((d :: r).map DX.d) gls bls d.d) mf F' o1 o2 o3 o4 o5
  · have o6 := Bool.and_eq_true_iff.mp o5
    exact fnG_ofT (c := ckOf ((d :: r).map DX.d) gls bls d.d) mf F' o1 o2 o3 o4 o6.1 o6.2
/-- a call that hands in every parameter, of a def without defaults -/
theorem bnd_full {x qual : Str} {params : Arguments} {body : List Stmt} {scope : Scope} {dvs : List V} {kws : List (Str × V)} {f : Addr} {fd : FuncData} {ps : List Str} {sh : Shape} (F : FunD K x qual params body scope dvs kws f fd) (hd : dvs = [])
    (hh : ∀ (kV doc pm : Value) (an : Option Addr) (cdv ct : Value) (us ws : List Value), us.length = sh.n → ws.length = sh.ks.length → ∃ zs, Paired (SelR K (us ++ ws)) sh.sel zs ∧ bindArgs (PySem.W.fnOf x qual params body scope .none kV doc pm an cdv ct) ⟨us, sh.ks.zip ws⟩ = pure (ps.zip zs)) : Bnd K fd ps sh := by
  obtain ⟨oc, od, dV, kV, doc, pm, an, cdv, ct, osl, rfl, lk, hcd, hD, hK⟩ := F.ex
  intro s us ws _ h1 h2
  rcases hD with ⟨_, rfl⟩ | ⟨e, _⟩
  · obtain ⟨zs, q1, q2⟩ := hh kV doc pm an cdv ct us ws h1 h2
    exact ⟨zs, q1, .of_eq q2⟩
  · exact absurd hd e
end
def BindersAt (e : DX) : Prop := ∀ (K : PySem.W.Frag) (f : Addr) (fd : FuncData), FunD K e.d.x e.d.x e.d.pa e.d.body e.d.sc (e.dd.dvs K) (e.dd.kws K) f fd → ∀ sh ∈ e.d.shapes, Bnd K fd e.d.ps sh
theorem bnil : Binders [] := fun e he => by cases he
theorem bcons {e : DX} {r : List DX} (h : BindersAt e) (t : Binders r) : Binders (e :: r) := fun e' he => by
  rcases List.mem_cons.mp he with rfl | he
  · exact h
  · exact t e' he
theorem snil {P : Shape → Prop} : ∀ sh ∈ ([] : List Shape), P sh := fun e he => by cases he
theorem scons {P : Shape → Prop} {s : Shape} {r : List Shape} (h : P s) (t : ∀ sh ∈ r, P sh) : ∀ sh ∈ s :: r, P sh := fun e he => by
  rcases List.mem_cons.mp he with rfl | he
  · exact h
  · exact t e he
end M
namespace M
open PySem PySem.Spec PyProof.Rows
/-! ### the signs of what repr tells are few and plain -/
inductive F2 {A B : Type} (R : A → B → Prop) : List A → List B → Prop
  | nil : F2 R [] []
  | cons {a : A} {b : B} {as : List A} {bs : List B} : R a b → F2 R as bs → F2 R (a :: as) (b :: bs)
def low (n : Nat) (s : Str) : Prop := s.length ≤ n ∧ ∀ c ∈ s.cps.toList, c < 128
theorem low.mono {n m : Nat} {s : Str} (h : low n s) (l : n ≤ m) : low m s := ⟨Nat.le_trans h.1 l, h.2⟩
theorem low_asc {n : Nat} {s : Str} (h : low n s) (l : n ≤ SL) : asc s.cps.toList = true := by
  unfold asc
  rw [Bool.and_eq_true, List.all_eq_true]
  refine ⟨fun c hc => decide_eq_true (h.2 c hc), decide_eq_true (Nat.le_trans ?_ l)⟩
  have := h.1
  simpa [Str.length] using this
theorem low_app {n m : Nat} {s t : Str} (h : low n s) (k : low m t) : low (n + m) (s ++ t) := by
  refine ⟨?_, fun c hc => ?_⟩
  · rw [strLen_append]; have := h.1; have := k.1; omega
  · rw [cps_toList_append, List.mem_append] at hc
    exact hc.elim (h.2 c) (k.2 c)
theorem reprChar_low : ∀ q, (q = 39 ∨ q = 34) → ∀ c, c < 128 → ∀ d ∈ Builtin.Str.reprChar q c, d < 128 := by
  have h : ∀ c, c < 128 → (∀ d ∈ Builtin.Str.reprChar 39 c, d < 128) ∧ ∀ d ∈ Builtin.Str.reprChar 34 c, d < 128 := by decide +kernel
  intro q hq c hc
  rcases hq with rfl | rfl
  · exact (h c hc).1
  · exact (h c hc).2
theorem fold_low (q : Nat) (hq : q = 39 ∨ q = 34) : ∀ (l : List Nat) (acc : Array Nat), (∀ c ∈ l, c < 128) → (∀ c ∈ acc.toList, c < 128) → ∀ c ∈ (l.foldl (fun out c => out ++ (Builtin.Str.reprChar q c).toArray) acc).toList, c < 128
  | [], acc, _, ha => ha
  | c :: r, acc, h, ha => by
    rw [List.foldl_cons]
    refine fold_low q hq r _ (fun d hd => h d (List.mem_cons_of_mem _ hd)) fun d hd => ?_
    rw [Array.toList_append, List.mem_append] at hd
    rcases hd with hd | hd
    · exact ha d hd
    · exact reprChar_low q hq c (h c List.mem_cons_self) d (by simpa using hd)
theorem reprText_low {s : Str} (h : ∀ c ∈ s.cps.toList, c < 128) : low (10 * s.length + 2) (reprText s) := by
  refine ⟨StrLaws.reprText_len s fun c hc => Nat.lt_trans (h c hc) (by decide), fun c hc => ?_⟩
  have hq : reprQuote s = 39 ∨ reprQuote s = 34 := by unfold reprQuote; split <;> simp
  unfold reprText at hc
  have hc : c ∈ ((s.cps.foldl (fun out c => out ++ (Builtin.Str.reprChar (reprQuote s) c).toArray) #[reprQuote s]).push (reprQuote s)).toList := hc
  rw [Array.toList_push, List.mem_append] at hc
  rcases hc with hc | hc
  · rw [← Array.foldl_toList] at hc
    refine fold_low _ hq _ _ h (fun d hd => ?_) c hc
    have : d = reprQuote s := by simpa using hd
    rw [this]; rcases hq with e | e <;> rw [e] <;> decide
  · have : c = reprQuote s := by simpa using hc
    rw [this]; rcases hq with e | e <;> rw [e] <;> decide
theorem int_low {i : Int} (h : i.natAbs < 2 ^ 1000) : low 1001 ((toString i : String) : Str) := by
  refine ⟨?_, fun c hc => ?_⟩
  · have e : ((toString i : String) : Str).length = (toString i).length := by
      have : ((toString i : String) : Str).length = ((toString i : String) : Str).cps.toList.length := by simp [Str.length]
      rw [this, signs_ofString, List.length_map, String.length_toList]
    rw [e]
    have : i.natAbs.log2 < 1000 := by
      by_cases z : i.natAbs = 0
      · rw [z]; decide
      · exact (Nat.log2_lt z).mpr h
    exact int_text_length_le (by decide) this
  · rw [signs_ofString] at hc
    obtain ⟨ch, hc, e⟩ := List.mem_map.mp hc
    rcases int_sign i ch hc with hd | hd
    · have := digit_range hd; omega
    · rw [hd] at e; have : (45 : Nat) = c := e; omega
mutual
/-- no more signs than these has repr -/
def wt : Val → Nat
  | .int _ => 1001
  | .str s => 10 * s.length + 2
  | .tup xs => wts xs + 3
  | .list xs => wts xs + 2
  | .dict ks vs => wts ks + wts vs + 2
  | _ => 5
def wts : List Val → Nat
  | [] => 0
  | x :: r => wt x + 2 + wts r
end
mutual
/-- plain signs, numbers that are not too great -/
def okA : Val → Bool
  | .none => true
  | .bool _ => true
  | .int i => decide (i.natAbs < 2 ^ 1000)
  | .str s => s.all fun c => decide (c < 128)
  | .tup xs => okAs xs
  | .list xs => okAs xs
  | .dict ks vs => okAs ks && okAs vs
  | _ => false
def okAs : List Val → Bool
  | [] => true
  | x :: r => okA x && okAs r
end
theorem textFrom_low : ∀ (ts : List Str) (k : Nat) (acc : Str) (ns : List Nat) (n : Nat), low n acc → F2 (fun n t => low n t) ns ts → low (n + ns.sum + 2 * ns.length) (textFrom k acc ts)
  | [], k, acc, ns, n, h, hs => by cases hs; exact h.mono (by simp)
  | t :: r, k, acc, ns, n, h, hs => by
    cases hs with
    | cons h1 h2 =>
      rename_i m ns
      have s : low 2 ((if k > 0 then ", " else "" : String) : Str) := by split <;> exact ⟨by decide, by decide⟩
      have := textFrom_low r (k + 1) _ ns _ (low_app (low_app h s) h1) h2
      refine this.mono ?_
      simp only [List.sum_cons, List.length_cons]; omega
theorem join_low : ∀ (ts : List Str) (ns : List Nat), F2 (fun n t => low n t) ns ts → low (ns.sum + 2 * ns.length) (Str.join ", " ts)
  | [], _, h => by cases h; exact ⟨by decide, by decide⟩
  | [t], _, h => by
    cases h with
    | cons h1 h2 => cases h2; rw [join_one]; exact h1.mono (by simp)
  | t :: u :: r, _, h => by
    cases h with
    | cons h1 h2 =>
      rw [join_cons_cons]
      have s : low 2 ((", " : String) : Str) := ⟨by decide, by decide⟩
      have := low_app (low_app h1 s) (join_low (u :: r) _ h2)
      refine this.mono ?_
      simp only [List.sum_cons, List.length_cons]; omega
mutual
theorem shown_low : ∀ {v : Val}, okA v = true → low (wt v) (PyData.shown (toPy v))
  | .none, _ => ⟨by decide, by decide⟩
  | .bool true, _ => ⟨by decide, by decide⟩
  | .bool false, _ => ⟨by decide, by decide⟩
  | .int i, h => int_low (of_decide_eq_true h)
  | .str s, h => by
    have h' := List.all_eq_true.mp (show s.all (fun c => decide (c < 128)) = true from h)
    have := reprText_low (s := toS s) (fun c hc => of_decide_eq_true (h' c (by simpa [toS] using hc)))
    refine this.mono ?_
    show 10 * (toS s).length + 2 ≤ 10 * s.length + 2
    simp [toS, Str.length]
  | .list xs, h => by
    obtain ⟨ns, h1, h2⟩ := showns_low (xs := xs) h
    show low _ (listText (PyData.shownAll (toPys xs)))
    unfold listText
    have := low_app (textFrom_low _ 0 "[" ns 1 ⟨by decide, by decide⟩ h1) (show low 1 (("]" : String) : Str) from ⟨by decide, by decide⟩)
    refine this.mono ?_
    show _ ≤ wts xs + 2
    omega
  | .tup xs, h => by
    obtain ⟨ns, h1, h2⟩ := showns_low (xs := xs) h
    show low _ (tupleText (PyData.shownAll (toPys xs)))
    unfold tupleText
    have s : ∀ b : Bool, low 2 ((if b = true then ",)" else ")" : String) : Str) := fun b => by cases b <;> exact ⟨by decide, by decide⟩
    have := low_app (low_app (show low 1 (("(" : String) : Str) from ⟨by decide, by decide⟩) (join_low _ ns h1)) (s ((PyData.shownAll (toPys xs)).length == 1))
    refine this.mono ?_
    show _ ≤ wts xs + 3
    omega
  | .dict ks vs, h => by
    have h' := Bool.and_eq_true_iff.mp (show (okAs ks && okAs vs) = true from h)
    obtain ⟨ns, h1, h2⟩ := showns_low (xs := ks) h'.1
    obtain ⟨ms, h3, h4⟩ := showns_low (xs := vs) h'.2
    show low _ (dictText (PyData.shownKv ((toPys ks).zip (toPys vs))))
    unfold dictText
    have kv : ∀ (a b : List PyData) (ns ms : List Nat), F2 (fun n t => low n t) ns (PyData.shownAll a) → F2 (fun n t => low n t) ms (PyData.shownAll b) →
        ∃ ls : List Nat, F2 (fun n t => low n t) ls (PyData.shownKv (a.zip b)) ∧ ls.sum + 2 * ls.length ≤ ns.sum + 2 * ns.length + (ms.sum + 2 * ms.length) := by
      intro a
      induction a with
      | nil => intro b ns ms _ _; exact ⟨[], .nil, by simp⟩
      | cons x a ih =>
        intro b ns ms h1 h3
        cases b with
        | nil => exact ⟨[], .nil, by simp⟩
        | cons y b =>
          cases h1 with
          | cons h1 h1' =>
            cases h3 with
            | cons h3 h3' =>
              obtain ⟨ls, q1, q2⟩ := ih b _ _ h1' h3'
              refine ⟨_ :: ls, F2.cons (low_app (low_app h1 (show low 2 ((": " : String) : Str) from ⟨by decide, by decide⟩)) h3) q1, ?_⟩
              simp only [List.sum_cons, List.length_cons]; omega
    obtain ⟨ls, q1, q2⟩ := kv _ _ ns ms h1 h3
    have := low_app (low_app (show low 1 (("{" : String) : Str) from ⟨by decide, by decide⟩) (join_low _ ls q1)) (show low 1 (("}" : String) : Str) from ⟨by decide, by decide⟩)
    refine this.mono ?_
    show _ ≤ wts ks + wts vs + 2
    omega
  | .obj _ _ _, h => by cases h
  | .ref _, h => by cases h
  | .fn _, h => by cases h
  | .cls _, h => by cases h
  | .ty _, h => by cases h
  | .scr _, h => by cases h
theorem showns_low : ∀ {xs : List Val}, okAs xs = true → ∃ ns : List Nat, F2 (fun n t => low n t) ns (PyData.shownAll (toPys xs)) ∧ ns.sum + 2 * ns.length = wts xs
  | [], _ => ⟨[], .nil, rfl⟩
  | x :: r, h => by
    have h' := Bool.and_eq_true_iff.mp (show (okA x && okAs r) = true from h)
    obtain ⟨ns, h1, h2⟩ := showns_low (xs := r) h'.2
    refine ⟨wt x :: ns, .cons (shown_low h'.1) h1, ?_⟩
    show _ = wt x + 2 + wts r
    rw [← h2]; simp only [List.sum_cons, List.length_cons]; omega
end
theorem asc_repr {v : Val} (h : okA v = true) (l : wt v ≤ SL) : asc (reprT v) = true := low_asc (shown_low h) l
mutual
theorem okA_few : ∀ {v : Val}, okA v = true → v.few = true
  | .none, _ => rfl
  | .bool _, _ => rfl
  | .int i, h => h
  | .str _, _ => rfl
  | .tup xs, h => okAs_fews (xs := xs) h
  | .list xs, h => okAs_fews (xs := xs) h
  | .dict ks vs, h => by
    have h' := Bool.and_eq_true_iff.mp (show (okAs ks && okAs vs) = true from h)
    exact Bool.and_eq_true_iff.mpr ⟨okAs_fews h'.1, okAs_fews h'.2⟩
  | .obj _ _ _, _ => rfl
  | .ref _, _ => rfl
  | .fn _, _ => rfl
  | .cls _, _ => rfl
  | .ty _, _ => rfl
  | .scr _, _ => rfl
theorem okAs_fews : ∀ {xs : List Val}, okAs xs = true → Val.fews xs = true
  | [], _ => rfl
  | x :: r, h => by
    have h' := Bool.and_eq_true_iff.mp (show (okA x && okAs r) = true from h)
    exact Bool.and_eq_true_iff.mpr ⟨okA_few h'.1, okAs_fews h'.2⟩
end
end M
namespace M
/-! ### what a run comes to -/
def Wp {A : Type} (r : Res A) (Q : A → Heap → Prop) : Prop := match r with
  | .ok a h => Q a h
  | _ => False
@[simp] theorem wp_ok {A : Type} {a : A} {h : Heap} {Q : A → Heap → Prop} : Wp (.ok a h) Q = Q a h := rfl
theorem wp_bind {A B : Type} {r : Res A} {f : A → Heap → Res B} {Q : B → Heap → Prop} : Wp (r.bind f) Q = Wp r (fun a h => Wp (f a h) Q) := by
  cases r <;> rfl
theorem Wp.mono {A : Type} {r : Res A} {Q R : A → Heap → Prop} (w : Wp r Q) (k : ∀ a h, Q a h → R a h) : Wp r R := by
  cases r with
  | ok a h => exact k a h w
  | exc _ _ => exact w.elim
  | stuck => exact w.elim
theorem Wp.of_eq {A : Type} {r : Res A} {a : A} {h : Heap} {Q : A → Heap → Prop} (e : r = .ok a h) (q : Q a h) : Wp r Q := by rw [e]; exact q
theorem Wp.eq {A : Type} {r : Res A} {a : A} {h : Heap} (w : Wp r fun b k => b = a ∧ k = h) : r = .ok a h := by
  cases r with
  | ok b k => obtain ⟨rfl, rfl⟩ := w; rfl
  | exc _ _ => exact w.elim
  | stuck => exact w.elim
/-! ### the evaluator, step by step -/
section
variable (cl : CallFn) (ls : Loc) (h : Heap)
theorem e_lit (v : Val) : evE cl (.lit v) ls h = .ok v h := rfl
theorem e_var (i : Nat) : evE cl (.var i) ls h = match ls[i]? with
  | some (some v) => .ok v h
  | _ => .stuck := rfl
theorem e_prim (p : P) (es : List ME) : evE cl (.prim p es) ls h = (evEs cl es ls h).bind fun vs h => evP p vs h := rfl
theorem e_and (a b : ME) : evE cl (.and a b) ls h = (evE cl a ls h).bind fun v h => (truthR v h).bind fun t h => if t then evE cl b ls h else .ok v h := rfl
theorem e_or (a b : ME) : evE cl (.or a b) ls h = (evE cl a ls h).bind fun v h => (truthR v h).bind fun t h => if t then .ok v h else evE cl b ls h := rfl
theorem e_not (a : ME) : evE cl (.not a) ls h = (evE cl a ls h).bind fun v h => (truthR v h).bind fun t h => .ok (.bool (!t)) h := rfl
theorem e_ite (t a b : ME) : evE cl (.ite t a b) ls h = (evE cl t ls h).bind fun v h => (truthR v h).bind fun t h => if t then evE cl a ls h else evE cl b ls h := rfl
theorem e_chain (p q : P) (a b c : ME) : evE cl (.chain p q a b c) ls h = (evE cl a ls h).bind fun x h => (evE cl b ls h).bind fun y h => (evP p [x, y] h).bind fun v h => (match v with
    | .bool true => (evE cl c ls h).bind fun z h => evP q [y, z] h
    | .bool false => .ok (.bool false) h
    | _ => .stuck) := rfl
theorem e_call (f : Nat) (es kes : List ME) (sel : List (Sum Nat Val)) : evE cl (.call f es kes sel) ls h = (evEs cl es ls h).bind fun vs h => (evEs cl kes ls h).bind fun ws h => match selV sel (vs ++ ws) with
    | some us => cl f us h
    | none => .stuck := rfl
theorem e_comp (m : Bool) (own : List Nat) (t : Tg) (i : MI) (cs : List ME) (e : ME) : evE cl (.comp m own t i cs e) ls h = (evI cl i ls h).bind fun p h => (turns p.2 (fun v h => match setTg t v (killL own ls) with
    | some ls => (evC cl cs ls h).bind fun b h => if b then (evE cl e ls h).bind fun v h => .ok [v] h else .ok [] h
    | none => .stuck) p.1 h).bind fun vs h => okList m vs h := rfl
theorem e_frz (e : ME) : evE cl (.frz e) ls h = (evE cl e ls h).bind fun v h => frzV v h := rfl
theorem e_meth (p : P) (o : ME) (es : List ME) : evE cl (.meth p o es) ls h = (evE cl o ls h).bind fun v h => if recv p v h then (evEs cl es ls h).bind fun vs h => evP p (v :: vs) h else .stuck := rfl
theorem es_nil : evEs cl [] ls h = .ok [] h := rfl
theorem es_cons (e : ME) (r : List ME) : evEs cl (e :: r) ls h = (evE cl e ls h).bind fun v h => (evEs cl r ls h).bind fun vs h => .ok (v :: vs) h := rfl
theorem c_nil : evC cl [] ls h = .ok true h := rfl
theorem c_cons (c : ME) (r : List ME) : evC cl (c :: r) ls h = (evE cl c ls h).bind fun v h => (truthR v h).bind fun t h => if t then evC cl r ls h else .ok false h := rfl
theorem i_val (e : ME) : evI cl (.val e) ls h = (evE cl e ls h).bind fun v h => match itVal h v with
    | some p => .ok p h
    | none => .stuck := rfl
theorem i_range (es : List ME) : evI cl (.range es) ls h = (evEs cl es ls h).bind fun vs h => match itRange vs with
    | some l => .ok (l, none) h
    | none => .stuck := rfl
theorem i_enum (e : ME) : evI cl (.enum e) ls h = (evE cl e ls h).bind fun v h => match isTup v, itVal h v with
    | false, some (l, pin) => .ok (enumL 0 l, pin) h
    | _, _ => .stuck := rfl
theorem i_zip (a b : ME) : evI cl (.zip a b) ls h = (evE cl a ls h).bind fun v h => (evE cl b ls h).bind fun w h => zipR v w h := rfl
theorem s_asg (ts : List TS) (e : ME) : evS cl (.asg ts e) ls h = (evE cl e ls h).bind fun v h => (stoTgs cl v ts ls h).bind fun ls h => .ok (.nx ls) h := rfl
theorem s_par (is : List Nat) (es : List ME) : evS cl (.par is es) ls h = (evEs cl es ls h).bind fun vs h => match setsTg is vs ls with
    | some ls => .ok (.nx ls) h
    | none => .stuck := rfl
theorem s_asg2 (i j : Nat) (e : ME) : evS cl (.asg2 i j e) ls h = (evE cl e ls h).bind fun v h => .ok (.nx ((ls.set i (some v)).set j (some v))) h := rfl
theorem s_aug (i : Nat) (p : P) (e : ME) : evS cl (.aug i p e) ls h = match ls[i]? with
    | some (some x) => (evE cl e ls h).bind fun y h => (augV p x y h).bind fun v h => .ok (.nx (ls.set i (some v))) h
    | _ => .stuck := rfl
theorem s_expr (e : ME) : evS cl (.expr e) ls h = (evE cl e ls h).bind fun _ h => .ok (.nx ls) h := rfl
theorem s_ite (t : ME) (a b : List MS) : evS cl (.ite t a b) ls h = (evT cl t ls h).bind fun c h => if c then evB cl a ls h else evB cl b ls h := rfl
theorem s_wh (t : ME) (b : List MS) : evS cl (.wh t b) ls h = whL (evT cl t) (fun ls h => evB cl b ls h) WL ls h := rfl
theorem s_for (t : Tg) (i : MI) (b : List MS) : evS cl (.for t i b) ls h = (evI cl i ls h).bind fun p h => forL p.2 (fun v ls h => match setTg t v ls with
    | some ls => evB cl b ls h
    | none => .stuck) p.1 ls h := rfl
theorem s_ret (e : ME) : evS cl (.ret e) ls h = (evE cl e ls h).bind fun v h => .ok (.ret v) h := rfl
theorem s_brk : evS cl .brk ls h = .ok (.brk ls) h := rfl
theorem b_nil : evB cl [] ls h = .ok (.nx ls) h := rfl
theorem b_cons (s : MS) (r : List MS) : evB cl (s :: r) ls h = (evS cl s ls h).bind fun f h => match f with
    | .nx ls => evB cl r ls h
    | f => .ok f h := rfl
theorem t_ev (e : ME) : evT cl e ls h = (evE cl e ls h).bind truthR := rfl
theorem st_nil (v : Val) : stoTgs cl v [] ls h = .ok ls h := rfl
theorem st_cons (v : Val) (t : TS) (r : List TS) : stoTgs cl v (t :: r) ls h = (stoTg cl v t ls h).bind fun ls h => stoTgs cl v r ls h := rfl
theorem st_name (v : Val) (i : Nat) : stoTg cl v (.name i) ls h = .ok (ls.set i (some v)) h := rfl
theorem st_tup (v : Val) (is : List Nat) : stoTg cl v (.tup is) ls h = match setTg (.tup is) v ls with
    | some ls => .ok ls h
    | none => .stuck := rfl
theorem st_ix (v : Val) (a i : ME) : stoTg cl v (.ix a i) ls h = (evE cl a ls h).bind fun x h => (evE cl i ls h).bind fun y h => ref1S x h fun n => int1S y fun j => lst1S h n fun xs => match ixN xs.length j with
    | some k => .ok ls (h.set n (.list (xs.set k v)))
    | none => .stuck := rfl
end
/-! ### primitives at values -/
section
variable (h : Heap)
theorem p_add_int (i j : Int) : evP .add [.int i, .int j] h = .ok (.int (i + j)) h := rfl
theorem p_add_str (s t : T) : evP .add [.str s, .str t] h = okT (s ++ t) h := rfl
theorem p_add_tup (s t : List Val) : evP .add [.tup s, .tup t] h = okTup (s ++ t) h := rfl
theorem p_add_list (s t : List Val) : evP .add [.list s, .list t] h = okList false (s ++ t) h := rfl
theorem p_sub (i j : Int) : evP .sub [.int i, .int j] h = .ok (.int (i - j)) h := rfl
theorem p_neg (i : Int) : evP .neg [.int i] h = .ok (.int (-i)) h := rfl
theorem p_mul_int (i j : Int) (k : (small i || small j) = true) : evP .mul [.int i, .int j] h = .ok (.int (i * j)) h := by show (if (small i || small j) = true then _ else _) = _; rw [if_pos k]
theorem p_fdiv (i j : Int) (k : 0 < j) (l : j < 1073741824) : evP .fdiv [.int i, .int j] h = .ok (.int (i / j)) h := by show (if 0 < j ∧ j < 1073741824 then _ else _) = _; rw [if_pos ⟨k, l⟩]
theorem p_mod (i j : Int) (k : 0 < j) : evP .mod [.int i, .int j] h = .ok (.int (i % j)) h := by show (if 0 < j then _ else _) = _; rw [if_pos k]
theorem p_eq_int (i j : Int) : evP .eq [.int i, .int j] h = .ok (.bool (i == j)) h := rfl
theorem p_ne_int (i j : Int) : evP .ne [.int i, .int j] h = .ok (.bool (!(i == j))) h := rfl
theorem p_eq_str (i j : T) : evP .eq [.str i, .str j] h = .ok (.bool (i == j)) h := rfl
theorem p_ne_str (i j : T) : evP .ne [.str i, .str j] h = .ok (.bool (!(i == j))) h := rfl
theorem p_lt (i j : Int) : evP .lt [.int i, .int j] h = .ok (.bool (decide (i < j))) h := rfl
theorem p_gt (i j : Int) : evP .gt [.int i, .int j] h = .ok (.bool (decide (j < i))) h := rfl
theorem p_le (i j : Int) : evP .le [.int i, .int j] h = .ok (.bool (decide (i ≤ j))) h := by
  have e : (!decide (j < i)) = decide (i ≤ j) := by by_cases z : i ≤ j <;> simp [z] <;> omega
  show Res.ok (Val.bool (!decide (j < i))) h = _; rw [e]
theorem p_ge (i j : Int) : evP .ge [.int i, .int j] h = .ok (.bool (decide (j ≤ i))) h := by
  have e : (!decide (i < j)) = decide (j ≤ i) := by by_cases z : j ≤ i <;> simp [z] <;> omega
  show Res.ok (Val.bool (!decide (i < j))) h = _; rw [e]
theorem p_isNone (v : Val) : evP .isNone [v] h = .ok (.bool (isN v)) h := rfl
theorem p_isNotNone (v : Val) : evP .isNotNone [v] h = .ok (.bool (!isN v)) h := rfl
theorem p_isTrue (b : Bool) : evP .isTrue [.bool b] h = .ok (.bool b) h := rfl
theorem p_isFalse (b : Bool) : evP .isFalse [.bool b] h = .ok (.bool (!b)) h := rfl
theorem p_isNotTrue (b : Bool) : evP .isNotTrue [.bool b] h = .ok (.bool (!b)) h := rfl
theorem p_isNotFalse (b : Bool) : evP .isNotFalse [.bool b] h = .ok (.bool b) h := rfl
theorem p_mem_sign (c : Nat) (s : T) : evP .mem [.str [c], .str s] h = .ok (.bool (decide (c ∈ s))) h := rfl
theorem p_notmem_sign (c : Nat) (s : T) : evP .notmem [.str [c], .str s] h = .ok (.bool (!decide (c ∈ s))) h := rfl
theorem p_ix_str (s : T) (i : Int) : evP .ix [.str s, .int i] h = optV ((atI s i).map fun c => .str [c]) h := rfl
theorem p_ix_list (s : List Val) (i : Int) : evP .ix [.list s, .int i] h = optV (atI s i) h := rfl
theorem p_ix_tup (s : List Val) (i : Int) : evP .ix [.tup s, .int i] h = optV (atI s i) h := rfl
theorem p_ix (v : Val) (i : Int) (w : Val) (e : ixV h v i = some w) : evP .ix [v, .int i] h = .ok w h := by show optV (ixV h v i) h = _; rw [e]; rfl
theorem optV_some (v : Val) : optV (some v) h = .ok v h := rfl
theorem p_sl11 (v : Val) (i j : Int) : evP (.sl true true) [v, .int i, .int j] h = slV h v (some i) (some j) := rfl
theorem p_sl10 (v : Val) (i : Int) : evP (.sl true false) [v, .int i] h = slV h v (some i) none := rfl
theorem p_sl01 (v : Val) (j : Int) : evP (.sl false true) [v, .int j] h = slV h v none (some j) := rfl
theorem p_sl00 (v : Val) : evP (.sl false false) [v] h = slV h v none none := rfl
theorem sl_str (s : T) (i j : Option Int) : slV h (.str s) i j = .ok (.str (cut s i j)) h := rfl
theorem sl_list (s : List Val) (i j : Option Int) : slV h (.list s) i j = .ok (.list (cut s i j)) h := rfl
theorem sl_tup (s : List Val) (i j : Option Int) : slV h (.tup s) i j = .ok (.tup (cut s i j)) h := rfl
theorem p_rev_str (m : Bool) (s : T) : evP (.rev m) [.str s] h = .ok (.str s.reverse) h := rfl
theorem p_rev_tup (m : Bool) (s : List Val) : evP (.rev m) [.tup s] h = okTup s.reverse h := rfl
theorem p_rev_list (m : Bool) (s : List Val) : evP (.rev m) [.list s] h = okList m s.reverse h := rfl
theorem p_tup (vs : List Val) : evP .tup vs h = okTup vs h := by unfold evP; rfl
theorem p_list (m : Bool) (vs : List Val) : evP (.list m) vs h = okList m vs h := by unfold evP; rfl
theorem p_len_str (s : T) : evP .len [.str s] h = .ok (.int s.length) h := rfl
theorem p_len_list (s : List Val) : evP .len [.list s] h = .ok (.int s.length) h := rfl
theorem p_len_tup (s : List Val) : evP .len [.tup s] h = .ok (.int s.length) h := rfl
theorem p_min2 (i j : Int) : evP .min2 [.int i, .int j] h = .ok (.int (if j < i then j else i)) h := rfl
theorem p_max2 (i j : Int) : evP .max2 [.int i, .int j] h = .ok (.int (if j > i then j else i)) h := rfl
theorem p_int_bool (b : Bool) : evP .int [.bool b] h = .ok (.int (if b then 1 else 0)) h := rfl
theorem p_int_int (i : Int) : evP .int [.int i] h = .ok (.int i) h := rfl
theorem p_bool (b : Bool) : evP .bool [.bool b] h = .ok (.bool b) h := rfl
theorem p_str_str (s : T) : evP .str [.str s] h = .ok (.str s) h := rfl
theorem p_ord (c : Nat) : evP .ord [.str [c]] h = .ok (.int c) h := rfl
theorem p_listOf_list (m : Bool) (s : List Val) : evP (.listOf m) [.list s] h = okList m s h := rfl
theorem p_listOf_tup (m : Bool) (s : List Val) : evP (.listOf m) [.tup s] h = okList m s h := rfl
theorem p_tupOf_list (s : List Val) : evP .tupOf [.list s] h = okTup s h := rfl
theorem p_tupOf_tup (s : List Val) : evP .tupOf [.tup s] h = okTup s h := rfl
theorem okT_ok (s : T) (l : s.length ≤ SL) : okT s h = .ok (.str s) h := if_pos l
theorem okTup_ok (s : List Val) (l : s.length ≤ SL) : okTup s h = .ok (.tup s) h := if_pos l
theorem okList_ok (s : List Val) (l : s.length ≤ SL) : okList false s h = .ok (.list s) h := by unfold okList; rw [if_pos l]; rfl
theorem okList_mut (s : List Val) (l : s.length ≤ SL) : okList true s h = .ok (.ref h.length) (h ++ [.list s]) := by unfold okList; rw [if_pos l]; rfl
theorem truth_bool (b : Bool) : truthR (.bool b) h = .ok b h := rfl
theorem truth_int (i : Int) : truthR (.int i) h = .ok (decide (i ≠ 0)) h := rfl
theorem truth_str (s : T) : truthR (.str s) h = .ok (!s.isEmpty) h := rfl
theorem truth_list (s : List Val) : truthR (.list s) h = .ok (!s.isEmpty) h := rfl
theorem truth_tup (s : List Val) : truthR (.tup s) h = .ok (!s.isEmpty) h := rfl
theorem if_tt {A : Type} (a b : A) : (if true = true then a else b) = a := rfl
theorem if_ff {A : Type} (a b : A) : (if false = true then a else b) = b := rfl
theorem it_list (s : List Val) : itVal h (.list s) = some (s, none) := rfl
theorem it_tup (s : List Val) : itVal h (.tup s) = some (s, none) := rfl
theorem it_str (s : T) : itVal h (.str s) = some (s.map fun c => .str [c], none) := rfl
theorem sl3_le : (3 : Nat) ≤ SL := by decide
end
theorem wp_if {A : Type} {b : Bool} {x y : Res A} {Q : A → Heap → Prop} (t : b = true → Wp x Q) (f : b = false → Wp y Q) : Wp (if b then x else y) Q := by
  cases b
  · exact f rfl
  · exact t rfl
/-- one statement after the other -/
theorem wp_seq {cl : CallFn} {s : MS} {r : List MS} {ls : Loc} {h : Heap} {Q : Flow → Heap → Prop} (w : Wp (evS cl s ls h) fun f h => match f with
    | .nx ls => Wp (evB cl r ls h) Q
    | f => Q f h) : Wp (evB cl (s :: r) ls h) Q := by
  rw [b_cons, wp_bind]
  refine w.mono fun f h q => ?_
  cases f <;> exact q
theorem wp_one {cl : CallFn} {s : MS} {ls : Loc} {h : Heap} {Q : Flow → Heap → Prop} (w : Wp (evS cl s ls h) Q) : Wp (evB cl [s] ls h) Q := by
  refine wp_seq (w.mono fun f h q => ?_)
  cases f <;> exact q
/-! ### calls -/
theorem okDrop_refl (n : Nat) : ∀ h : Heap, okDrop n h h = true
  | [] => rfl
  | o :: h => by simp [okDrop, okDrop_refl n h]
theorem okDrop_app (n : Nat) : ∀ a b c : Heap, okDrop n (a ++ b) (a ++ (b ++ c)) = true
  | [], [], _ => rfl
  | [], o :: b, c => by simpa [okDrop] using okDrop_app n [] b c
  | o :: a, b, c => by simpa [okDrop] using okDrop_app n a b c
theorem okDrop_more (n : Nat) : ∀ a c : Heap, okDrop n a (a ++ c) = true
  | [], _ => rfl
  | o :: a, c => by simp [okDrop, okDrop_more n a c]
mutual
theorem flat_lt {n : Nat} : ∀ {v : Val}, v.flat = true → v.lt n = true
  | .none, _ => rfl
  | .bool _, _ => rfl
  | .int _, _ => rfl
  | .str _, _ => rfl
  | .tup xs, h => flats_lt (xs := xs) h
  | .list xs, h => flats_lt (xs := xs) h
  | .dict _ _, h => by cases h
  | .obj _ _ _, h => by cases h
  | .ref _, h => by cases h
  | .fn _, _ => rfl
  | .cls _, _ => rfl
  | .ty _, _ => rfl
  | .scr _, h => by cases h
theorem flats_lt {n : Nat} : ∀ {xs : List Val}, Val.flats xs = true → Val.lts n xs = true
  | [], _ => rfl
  | x :: r, h => by
    have h' := Bool.and_eq_true_iff.mp (show (x.flat && Val.flats r) = true from h)
    exact Bool.and_eq_true_iff.mpr ⟨flat_lt h'.1, flats_lt h'.2⟩
end
mutual
theorem okA_lt {n : Nat} : ∀ {v : Val}, okA v = true → v.lt n = true
  | .none, _ => rfl
  | .bool _, _ => rfl
  | .int _, _ => rfl
  | .str _, _ => rfl
  | .tup xs, h => okAs_lt (xs := xs) h
  | .list xs, h => okAs_lt (xs := xs) h
  | .dict ks vs, h => by
    have h' := Bool.and_eq_true_iff.mp (show (okAs ks && okAs vs) = true from h)
    exact Bool.and_eq_true_iff.mpr ⟨okAs_lt h'.1, okAs_lt h'.2⟩
  | .obj _ _ _, h => by cases h
  | .ref _, h => by cases h
  | .fn _, _ => rfl
  | .cls _, _ => rfl
  | .ty _, _ => rfl
  | .scr _, h => by cases h
theorem okAs_lt {n : Nat} : ∀ {xs : List Val}, okAs xs = true → Val.lts n xs = true
  | [], _ => rfl
  | x :: r, h => by
    have h' := Bool.and_eq_true_iff.mp (show (okA x && okAs r) = true from h)
    exact Bool.and_eq_true_iff.mpr ⟨okA_lt h'.1, okAs_lt h'.2⟩
end
/-- handed back is v, nothing that stood is changed -/
def PR (h : Heap) (v : Val) (f : Flow) (h' : Heap) : Prop := f = .ret v ∧ ∃ t, h' = h ++ t
theorem pr_ret {h : Heap} {v w : Val} (e : w = v) : PR h v (.ret w) h := ⟨by rw [e], [], by simp⟩
/-- a def that changes nothing and hands back data -/
theorem run_pure {cl : CallFn} {fn : Fn} {vs : List Val} {h : Heap} {v : Val} (hn : vs.length = fn.n) (hk : fn.keep = false) (hv : v.lt h.length = true)
    (e : Wp (evB cl fn.body (vs.map some ++ List.replicate (fn.slots - fn.n) none) h) (PR h v)) : runF cl fn vs h = .ok v h := by
  unfold runF
  rw [if_pos hn]
  cases z : evB cl fn.body (vs.map some ++ List.replicate (fn.slots - fn.n) none) h with
  | ok f h' =>
    rw [z] at e
    obtain ⟨rfl, t, rfl⟩ := e
    show dropTo fn.keep h v (h ++ t) = _
    unfold dropTo
    rw [hk]
    simp only [Bool.false_eq_true, if_false]
    rw [hv, okDrop_more]
    simp
  | exc _ _ => rw [z] at e; exact e.elim
  | stuck => rw [z] at e; exact e.elim
theorem run_keep {cl : CallFn} {fn : Fn} {vs : List Val} {h : Heap} {Q : Val → Heap → Prop} (hn : vs.length = fn.n) (hk : fn.keep = true)
    (e : Wp (evB cl fn.body (vs.map some ++ List.replicate (fn.slots - fn.n) none) h) fun f h' => ∃ v, f = .ret v ∧ Q v h') : Wp (runF cl fn vs h) Q := by
  unfold runF
  rw [if_pos hn]
  cases z : evB cl fn.body (vs.map some ++ List.replicate (fn.slots - fn.n) none) h with
  | ok f h' =>
    rw [z] at e
    obtain ⟨v, rfl, q⟩ := e
    show Wp (dropTo fn.keep h v h') Q
    unfold dropTo
    rw [hk]
    exact q
  | exc _ _ => rw [z] at e; exact e.elim
  | stuck => rw [z] at e; exact e.elim
/-! ### the deck -/
def deck (c : List Int) (s t : Int) : Heap := [.list (c.map .int), .list [.ref 0, .int s, .int t]]
/-- the heap behind some draws: the deck, and what else was there -/
def Dk (rest : Heap) (h : Heap) : Prop := ∃ c s t, c.length ≤ 63 ∧ h = deck c s t ++ rest
theorem ints_lt {n : Nat} : ∀ c : List Int, Val.lts n (c.map .int) = true
  | [] => rfl
  | _ :: c => by simp [Val.lts, Val.lt, ints_lt c]
theorem okDrop_deck {c c' : List Int} {s t s' t' : Int} {rest l : Heap} : okDrop (deck c s t ++ rest).length (deck c s t ++ rest) (deck c' s' t' ++ (rest ++ l)) = true := by
  simp only [deck, List.cons_append, List.nil_append, okDrop, Obj.lt, ints_lt, Val.lts, Val.lt, Bool.or_true, Bool.true_and, List.length_cons, Bool.and_true, okDrop_more]
  simp
def PD (P : Val → Prop) (rest : Heap) (f : Flow) (h' : Heap) : Prop := ∃ v l, f = .ret v ∧ P v ∧ Dk (rest ++ l) h'
theorem pd_ret {P : Val → Prop} {rest h : Heap} {v : Val} (p : P v) (d : Dk rest h) : PD P rest (.ret v) h := ⟨v, [], rfl, p, by rw [List.append_nil]; exact d⟩
/-- a def that may draw, and hands back data -/
theorem run_draw {cl : CallFn} {fn : Fn} {vs : List Val} {rest : Heap} {h : Heap} {P : Val → Prop} (hd : Dk rest h) (hn : vs.length = fn.n) (hk : fn.keep = false) (hP : ∀ n v, P v → v.lt n = true)
    (e : Wp (evB cl fn.body (vs.map some ++ List.replicate (fn.slots - fn.n) none) h) (PD P rest)) : Wp (runF cl fn vs h) fun v h' => P v ∧ Dk rest h' := by
  obtain ⟨c, s, t, hc, rfl⟩ := hd
  unfold runF
  rw [if_pos hn]
  cases z : evB cl fn.body (vs.map some ++ List.replicate (fn.slots - fn.n) none) (deck c s t ++ rest) with
  | ok f h' =>
    rw [z] at e
    obtain ⟨v, l, rfl, q, c', s', t', hc', rfl⟩ := e
    show Wp (dropTo fn.keep _ v _) _
    unfold dropTo
    rw [hk]
    simp only [Bool.false_eq_true, if_false]
    rw [hP _ v q, okDrop_deck]
    refine ⟨q, c', s', t', hc', ?_⟩
    have e1 : (deck c s t ++ rest).length = (deck c' s' t' ++ rest).length := by simp [deck]
    rw [e1, ← List.append_assoc, List.take_left']
    rfl
  | exc _ _ => rw [z] at e; exact e.elim
  | stuck => rw [z] at e; exact e.elim
/-! ### loops -/
/-- a comprehension whose turns change nothing -/
theorem turns_pure {step : Val → Heap → Res (List Val)} {h : Heap} {pin : Pin} (hp : pinned h pin = true) {g : Val → List Val} : ∀ {xs : List Val}, (∀ x ∈ xs, step x h = .ok (g x) h) → turns pin step xs h = .ok (xs.flatMap g) h
  | [], _ => by simp [turns, hp]
  | x :: r, k => by
    have ih := turns_pure (h := h) hp (g := g) (xs := r) fun y hy => k y (List.mem_cons_of_mem _ hy)
    simp [turns, hp, k x List.mem_cons_self, ih]
theorem flatMap_one {A B : Type} (f : A → B) : ∀ xs : List A, xs.flatMap (fun x => [f x]) = xs.map f
  | [] => rfl
  | x :: r => by simp [flatMap_one f r]
theorem flatMap_filter {A : Type} (f : A → Bool) : ∀ xs : List A, xs.flatMap (fun x => if f x then [x] else []) = xs.filter f
  | [] => rfl
  | x :: r => by
    simp only [List.flatMap_cons, flatMap_filter f r, List.filter_cons]
    split <;> rfl
/-- a comprehension that may draw: one item a turn -/
theorem turns_draw {step : Val → Heap → Res (List Val)} {I : Heap → Prop} {R : Val → Val → Prop} : ∀ {xs : List Val} {h : Heap}, I h → (∀ x ∈ xs, ∀ h, I h → Wp (step x h) fun l h' => (∃ y, l = [y] ∧ R x y) ∧ I h') →
    Wp (turns none step xs h) fun l h' => F2 R xs l ∧ I h'
  | [], h, i, _ => ⟨.nil, i⟩
  | x :: r, h, i, k => by
    unfold turns
    rw [if_pos (show pinned h none = true from rfl), wp_bind]
    refine (k x List.mem_cons_self h i).mono fun l h1 q => ?_
    obtain ⟨⟨y, rfl, ry⟩, i1⟩ := q
    rw [wp_bind]
    refine (turns_draw i1 fun z hz => k z (List.mem_cons_of_mem _ hz)).mono fun l2 h2 q2 => ?_
    exact ⟨.cons ry q2.1, q2.2⟩
theorem F2.len {A B : Type} {R : A → B → Prop} : ∀ {as : List A} {bs : List B}, F2 R as bs → as.length = bs.length
  | _, _, .nil => rfl
  | _, _, .cons _ t => congrArg Nat.succ t.len
theorem F2.mem {A B : Type} {R : A → B → Prop} : ∀ {as : List A} {bs : List B}, F2 R as bs → ∀ b ∈ bs, ∃ a ∈ as, R a b
  | _, _, .nil, b, h => by cases h
  | _, _, .cons h1 t, b, h => by
    rcases List.mem_cons.mp h with rfl | h
    · exact ⟨_, List.mem_cons_self, h1⟩
    · obtain ⟨a, m, q⟩ := t.mem b h
      exact ⟨a, List.mem_cons_of_mem _ m, q⟩
theorem F2.mono {A B : Type} {R S : A → B → Prop} (k : ∀ a b, R a b → S a b) : ∀ {as : List A} {bs : List B}, F2 R as bs → F2 S as bs
  | _, _, .nil => .nil
  | _, _, .cons h t => .cons (k _ _ h) (t.mono k)
/-- a for loop: the invariant goes on, or the def is left -/
theorem for_inv {pin : Pin} {step : Val → Loc → Heap → Res Flow} {I : Loc → Heap → Prop} {Q : Flow → Heap → Prop} (hp : ∀ ls h, I ls h → pinned h pin = true) : ∀ {xs : List Val} {ls : Loc} {h : Heap}, I ls h →
    (∀ x ∈ xs, ∀ ls h, I ls h → Wp (step x ls h) fun f h' => match f with
      | .nx ls => I ls h'
      | .ret v => Q (.ret v) h'
      | .brk ls => Q (.nx ls) h') → (∀ ls h, I ls h → Q (.nx ls) h) → Wp (forL pin step xs ls h) Q
  | [], ls, h, i, _, d => by
    unfold forL
    rw [if_pos (hp ls h i)]
    exact d ls h i
  | x :: r, ls, h, i, k, d => by
    unfold forL
    rw [if_pos (hp ls h i), wp_bind]
    refine (k x List.mem_cons_self ls h i).mono fun f h1 q => ?_
    cases f with
    | nx ls1 => exact for_inv hp q (fun y hy => k y (List.mem_cons_of_mem _ hy)) d
    | ret v => exact q
    | brk ls1 => exact q
theorem rangeL_mem {lo : Int} : ∀ {n : Nat} {v : Val}, v ∈ rangeL lo n → ∃ i : Int, v = .int i ∧ lo ≤ i ∧ i < lo + n
  | 0, v, h => by cases h
  | n + 1, v, h => by
    rcases List.mem_cons.mp (show v ∈ Val.int lo :: rangeL (lo + 1) n from h) with rfl | h
    · exact ⟨lo, rfl, Int.le_refl _, by omega⟩
    · obtain ⟨i, e, h1, h2⟩ := rangeL_mem h
      exact ⟨i, e, by omega, by omega⟩
theorem rangeL_len {lo : Int} : ∀ n : Nat, (rangeL lo n).length = n
  | 0 => rfl
  | n + 1 => congrArg Nat.succ (rangeL_len n)
end M
namespace M
local macro_rules | `(tactic| decreasing_trivial) => `(tactic| simp only [wp_bind, wp_ok, bind_ok, e_lit, e_var, e_prim, e_and, e_or, e_not, e_ite, e_chain, e_call, e_comp, e_frz, e_meth, es_nil, es_cons, c_nil, c_cons, i_val, i_range, i_enum, i_zip, s_asg, s_aug, s_expr, s_ite, s_wh, s_for, s_ret, s_brk, t_ev, st_nil, st_cons, st_name, st_tup, st_ix,
  List.getElem?_cons_zero, List.getElem?_cons_succ, List.set_cons_zero, List.set_cons_succ, List.map_cons, List.map_nil, List.cons_append, List.nil_append, List.append_nil, List.replicate_succ, List.replicate_zero,
  p_add_int, p_add_str, p_add_tup, p_add_list, p_sub, p_neg, p_eq_int, p_ne_int, p_eq_str, p_ne_str, p_lt, p_gt, p_le, p_ge, p_isNone, p_isNotNone, p_isTrue, p_isFalse, p_isNotTrue, p_isNotFalse, p_mem_sign, p_notmem_sign, p_ix_str, p_ix_list, p_ix_tup, optV_some, p_sl11, p_sl10, p_sl01, p_sl00, sl_str, sl_list, sl_tup, p_rev_str, p_rev_list, p_tup, p_list, p_len_str, p_len_list, p_len_tup, p_min2, p_max2, p_int_bool, p_int_int, p_bool, p_str_str, p_ord, p_listOf_list, p_listOf_tup, p_tupOf_list, p_tupOf_tup, truth_bool, truth_int, truth_str, truth_list, truth_tup, if_tt, if_ff, if_true, if_false, it_list, it_tup, it_str])
def bDraw : List MS := [.asg [.ix (.var 0) (.lit (.int 2))] (.prim .add [(.prim .ix [(.var 0), (.lit (.int 2))]), (.lit (.int 1))]), .asg [.name 2] (.prim .ix [(.var 0), (.lit (.int 1))]), .ite (.prim .ne [(.prim .ix [(.var 0), (.lit (.int 0))]), (.prim (.list false) [])]) [.asg [.name 2] (.meth .pop (.prim .ix [(.var 0), (.lit (.int 0))]) []), .ite (.prim .ge [(.var 2), (.prim .pow [(.lit (.int 10)), (.lit (.int 18))])]) [.expr (.meth .append (.prim .ix [(.var 0), (.lit (.int 0))]) [(.prim .fdiv [(.var 2), (.var 1)])]), .ret (.prim .mod [(.var 2), (.var 1)])] []] [], .asg [.name 3] (.prim .mod [(.prim .mul [(.prim .add [(.prim .add [(.prim .mod [(.var 2), (.lit (.int 2147483629))]), (.prim .mul [(.lit (.int 65537)), (.prim .ix [(.var 0), (.lit (.int 2))])])]), (.lit (.int 3))]), (.lit (.int 48271))]), (.lit (.int 2147483647))]), .asg [.name 3] (.prim .mod [(.prim .add [(.prim .add [(.prim .mul [(.var 3), (.var 3)]), (.prim .mul [(.lit (.int 69621)), (.prim .ix [(.var 0), (.lit (.int 2))])])]), (.lit (.int 17))]), (.lit (.int 2147483587))]), .ret (.prim .mod [(.prim .fdiv [(.prim .mod [(.prim .add [(.prim .mul [(.var 3), (.var 3)]), (.lit (.int 39373))]), (.lit (.int 2147483563))]), (.lit (.int 64))]), (.var 1)])]
theorem flats_ints : ∀ c : List Int, Val.flats (c.map .int) = true
  | [] => rfl
  | _ :: c => by simp [Val.flats, Val.flat, flats_ints c]
theorem deeps_ints : ∀ c : List Int, Val.deeps (c.map .int) = 0
  | [] => rfl
  | _ :: c => by simp [Val.deeps, Val.deep, deeps_ints c]
section
variable (c : List Int) (s t : Int) (rest : Heap)
theorem deck_ix0 : evP .ix [.ref 1, .int 0] (deck c s t ++ rest) = .ok (.ref 0) (deck c s t ++ rest) := rfl
theorem deck_ix1 : evP .ix [.ref 1, .int 1] (deck c s t ++ rest) = .ok (.int s) (deck c s t ++ rest) := rfl
theorem deck_ix2 : evP .ix [.ref 1, .int 2] (deck c s t ++ rest) = .ok (.int t) (deck c s t ++ rest) := rfl
end
/-- what a draw hands on to the last steps -/
theorem draw_end {cl : CallFn} {c : List Int} {s t m x : Int} {rest : Heap} (u : Option Val) (hm : 0 < m) (hc : c.length ≤ 63) :
    Wp (evB cl (bDraw.drop 3) [some (.ref 1), some (.int m), some (.int x), u] (deck c s t ++ rest)) fun f h' => ∃ v l, f = .ret v ∧ (∃ r, v = .int r ∧ 0 ≤ r ∧ r < m) ∧ Dk (rest ++ l) h' := by
  have b1 : ∀ z : Int, (small (z % 2147483647) || small (z % 2147483647)) = true := fun z => by unfold small; rw [Bool.or_self, decide_eq_true_eq]; omega
  have b2 : ∀ z : Int, (small (z % 2147483587) || small (z % 2147483587)) = true := fun z => by unfold small; rw [Bool.or_self, decide_eq_true_eq]; omega
  have b3 : ∀ z : Int, (small 65537 || small z) = true := fun z => rfl
  have b4 : ∀ z : Int, (small z || small 48271) = true := fun z => Bool.or_true _
  have b5 : ∀ z : Int, (small 69621 || small z) = true := fun z => rfl
  have m1 : ∀ (z : Int) h, evP .mod [.int z, .int 2147483629] h = .ok (.int (z % 2147483629)) h := fun z h => rfl
  have m2 : ∀ (z : Int) h, evP .mod [.int z, .int 2147483647] h = .ok (.int (z % 2147483647)) h := fun z h => rfl
  have m3 : ∀ (z : Int) h, evP .mod [.int z, .int 2147483587] h = .ok (.int (z % 2147483587)) h := fun z h => rfl
  have m4 : ∀ (z : Int) h, evP .mod [.int z, .int 2147483563] h = .ok (.int (z % 2147483563)) h := fun z h => rfl
  have m5 : ∀ (z : Int) h, evP .fdiv [.int z, .int 64] h = .ok (.int (z / 64)) h := fun z h => rfl
  refine wp_seq ?_
  decreasing_trivial
  simp only [deck_ix2, m1, m2, bind_ok, wp_ok, p_mul_int _ _ _ (b3 _), p_mul_int _ _ _ (b4 _), p_add_int]
  refine wp_seq ?_
  decreasing_trivial
  simp only [deck_ix2, m3, bind_ok, wp_ok, p_mul_int _ _ _ (b1 _), p_mul_int _ _ _ (b5 _), p_add_int]
  refine wp_one ?_
  decreasing_trivial
  simp only [m4, m5, p_mod _ _ _ hm, bind_ok, wp_ok, p_mul_int _ _ _ (b2 _), p_add_int]
  exact ⟨_, [], rfl, ⟨_, rfl, Int.emod_nonneg _ (by omega), Int.emod_lt_of_pos _ hm⟩, c, s, t, hc, by simp⟩
theorem draw_ok {cl : CallFn} {m : Int} {rest h : Heap} (hm : 0 < m) (hm2 : m < 1073741824) (hd : Dk rest h) :
    Wp (runF cl ⟨2, 4, false, bDraw⟩ [.ref 1, .int m] h) fun v h' => (∃ r, v = .int r ∧ 0 ≤ r ∧ r < m) ∧ Dk rest h' := by
  refine run_draw hd rfl rfl (by rintro n v ⟨r, rfl, _⟩; rfl) ?_
  obtain ⟨c, s, t, hc, rfl⟩ := hd
  show Wp (evB cl bDraw [some (.ref 1), some (.int m), none, none] (deck c s t ++ rest)) _
  have e : bDraw = .asg [.ix (.var 0) (.lit (.int 2))] (.prim .add [(.prim .ix [(.var 0), (.lit (.int 2))]), (.lit (.int 1))]) :: .asg [.name 2] (.prim .ix [(.var 0), (.lit (.int 1))]) :: .ite (.prim .ne [(.prim .ix [(.var 0), (.lit (.int 0))]), (.prim (.list false) [])]) [.asg [.name 2] (.meth .pop (.prim .ix [(.var 0), (.lit (.int 0))]) []), .ite (.prim .ge [(.var 2), (.prim .pow [(.lit (.int 10)), (.lit (.int 18))])]) [.expr (.meth .append (.prim .ix [(.var 0), (.lit (.int 0))]) [(.prim .fdiv [(.var 2), (.var 1)])]), .ret (.prim .mod [(.var 2), (.var 1)])] []] [] :: bDraw.drop 3 := rfl
  rw [e]
  have sto : stoTg cl (.int (t + 1)) (.ix (.var 0) (.lit (.int 2))) [some (.ref 1), some (.int m), none, none] (deck c s t ++ rest) = .ok [some (.ref 1), some (.int m), none, none] (deck c s (t + 1) ++ rest) := rfl
  refine wp_seq ?_
  simp only [s_asg, e_prim, es_cons, es_nil, e_var, e_lit, List.getElem?_cons_zero, bind_ok, wp_bind, wp_ok, deck_ix2, p_add_int, st_cons, st_nil, sto]
  refine wp_seq ?_
  decreasing_trivial
  simp only [deck_ix1, bind_ok, wp_ok, wp_bind]
  refine wp_seq ?_
  have eq0 : evP .ne [.ref 0, .list []] (deck c s (t + 1) ++ rest) = .ok (.bool (!c.isEmpty)) (deck c s (t + 1) ++ rest) := by
    have : eqV (deck c s (t + 1) ++ rest) (.ref 0) (.list []) = some c.isEmpty := by
      have : dr (deck c s (t + 1) ++ rest) (.ref 0) = some (.list (c.map .int)) := rfl
      unfold eqV
      rw [this]
      simp only [dr, Val.flat, flats_ints, Val.flats, Val.deep, deeps_ints, Val.deeps]
      cases c with
      | nil => rfl
      | cons a r => rfl
    show optB ((eqV (deck c s (t + 1) ++ rest) (.ref 0) (.list [])).map (!·)) _ = _
    rw [this]; rfl
  decreasing_trivial
  simp only [deck_ix0, wp_bind, wp_ok, bind_ok, okList_ok _ [] (Nat.zero_le _), eq0, truth_bool]
  rcases List.eq_nil_or_concat c with rfl | ⟨c0, x, rfl⟩
  · simp only [List.isEmpty_nil, Bool.not_true, if_ff, b_nil, wp_ok]
    exact draw_end none hm hc
  · have hc0 : c0.length + 1 ≤ 63 := by simpa using hc
    have ne : (c0.concat x).isEmpty = false := by simp
    have rc : recv .pop (.ref 0) (deck (c0.concat x) s (t + 1) ++ rest) = true := rfl
    have pp : evP .pop [.ref 0] (deck (c0.concat x) s (t + 1) ++ rest) = .ok (.int x) (deck c0 s (t + 1) ++ rest) := by
      have : lst1 (deck (c0.concat x) s (t + 1) ++ rest) 0 = fun f => f ((c0.concat x).map .int) := rfl
      simp only [evP, ref1, this]
      simp [deck]
    simp only [ne, Bool.not_false, if_tt]
    refine wp_seq ?_
    decreasing_trivial
    simp only [deck_ix0, wp_bind, wp_ok, bind_ok, rc, if_tt, pp]
    have pw : ∀ h : Heap, evP .pow [.int 10, .int 18] h = .ok (.int 1000000000000000000) h := fun h => rfl
    refine wp_one ?_
    decreasing_trivial
    simp only [pw, wp_ok, bind_ok, wp_bind, p_ge, truth_bool]
    refine wp_if (fun hx => ?_) fun hx => ?_
    · have rc2 : recv .append (.ref 0) (deck c0 s (t + 1) ++ rest) = true := rfl
      have ap : evP .append [.ref 0, .int (x / m)] (deck c0 s (t + 1) ++ rest) = .ok .none (deck (c0 ++ [x / m]) s (t + 1) ++ rest) := by
        have : lst1 (deck c0 s (t + 1) ++ rest) 0 = fun f => f (c0.map .int) := rfl
        simp only [evP, ref1, this]
        rw [if_pos (by rw [List.length_map]; exact Nat.lt_of_lt_of_le hc0 (by decide))]
        simp [deck]
      refine wp_seq ?_
      decreasing_trivial
      simp only [deck_ix0, wp_bind, wp_ok, bind_ok, p_fdiv _ _ _ hm hm2, rc2, if_tt, ap]
      refine wp_one ?_
      decreasing_trivial
      simp only [p_mod _ _ _ hm, wp_ok, bind_ok]
      exact ⟨_, [], rfl, ⟨_, rfl, Int.emod_nonneg _ (by omega), Int.emod_lt_of_pos _ hm⟩, c0 ++ [x / m], s, t + 1, by simpa using hc0, by simp⟩
    · simp only [b_nil, wp_ok]
      exact draw_end (x := x) none hm (by omega)
def bPick : List MS := [.ret (.prim .ix [(.var 1), (.call 2 [(.var 0), (.prim .len [(.var 1)])] [] [.inl 0, .inl 1])])]
def bDeck : List MS := [.ret (.prim (.list true) [(.prim (.rev true) [(.prim (.listOf false) [(.prim (.sl false true) [(.var 0), (.lit (.int 63))])])]), (.prim .add [(.prim .sum [(.comp false [1] (.name 1) (.val (.prim (.sl false true) [(.var 0), (.lit (.int 63))])) [] (.prim .mod [(.var 1), (.lit (.int 1000003))]))]), (.prim .mul [(.lit (.int 7919)), (.prim .len [(.prim (.sl false true) [(.var 0), (.lit (.int 63))])])])]), (.lit (.int 0))])]
theorem atI_nat {A : Type} {xs : List A} {i : Int} (h0 : 0 ≤ i) (h1 : i < xs.length) : atI xs i = xs[i.toNat]? := by
  unfold atI ixN
  rw [if_pos h0, if_pos h1]
  rfl
/-- the deck is made -/
theorem deck_ok {cl : CallFn} {ns : List Int} (hn : ns.length ≤ 63) : Wp (runF cl ⟨1, 2, true, bDeck⟩ [.scr (ns.map .int)] []) fun v h => v = .ref 1 ∧ Dk [] h := by
  refine run_keep rfl rfl ?_
  show Wp (evB cl bDeck [some (.scr (ns.map .int)), none] []) _
  have hcut : ∀ h : Heap, slV h (.scr (ns.map .int)) none (some 63) = .ok (.list (ns.map .int)) h := fun h => by
    have e : cut (ns.map Val.int) none (some 63) = ns.map .int := by
      unfold cut sIx
      simp only [List.drop_zero, List.length_map]
      rw [if_neg (by decide), List.take_of_length_le]
      simp only [List.length_map]
      show _ ≤ min 63 ns.length - 0
      omega
    show Res.ok (Val.list (cut (ns.map Val.int) none (some 63))) h = _
    rw [e]
  have hl : (ns.map Val.int).length ≤ SL := by rw [List.length_map]; exact Nat.le_trans hn (by decide)
  have hr : ∀ h : Heap, okList true (ns.map Val.int).reverse h = .ok (.ref h.length) (h ++ [.list (ns.reverse.map .int)]) := fun h => by
    rw [okList_mut _ _ (by rw [List.length_reverse]; exact hl), List.map_reverse]
  have hs : ∀ h : Heap, evP .sum [.list (ns.map fun i => Val.int (i % 1000003))] h = .ok (.int (ns.map (· % 1000003)).sum) h := fun h => by
    have : intsOf (ns.map fun i => Val.int (i % 1000003)) = some (ns.map (· % 1000003)) := by
      clear hn hcut hl hr
      induction ns with
      | nil => rfl
      | cons a r ih => simp only [List.map_cons, intsOf, ih, Option.map_some]
    show optV (((some (ns.map fun i => Val.int (i % 1000003))).bind intsOf).map fun is => .int is.sum) h = _
    simp only [Option.bind_some, this, Option.map_some, optV_some]
  refine wp_one ?_
  decreasing_trivial
  simp only [hcut, wp_ok, bind_ok, okList_ok _ _ hl, hr, List.length_nil, List.nil_append, killL, List.foldl, it_list, p_listOf_list, p_rev_list]
  decreasing_trivial
  rw [turns_pure (g := fun v => match v with
    | .int i => [.int (i % 1000003)]
    | _ => []) rfl fun x hx => by
      obtain ⟨i, _, rfl⟩ := List.mem_map.mp hx
      simp only [setTg, List.set_cons_zero, List.set_cons_succ, List.foldl_cons, List.foldl_nil]
      decreasing_trivial
      simp only [p_mod _ _ _ (show (0 : Int) < 1000003 by decide), bind_ok]]
  have fm : (ns.map Val.int).flatMap (fun v => match v with
    | .int i => [Val.int (i % 1000003)]
    | _ => []) = ns.map fun i => Val.int (i % 1000003) := by
    rw [List.flatMap_map]
    exact flatMap_one _ ns
  have hl2 : (ns.map fun i => Val.int (i % 1000003)).length ≤ SL := by rw [List.length_map]; exact Nat.le_trans hn (by decide)
  simp only [wp_ok, bind_ok, fm, okList_ok _ _ hl2, hs, hcut, p_len_list, p_mul_int _ 7919 _ rfl, p_add_int]
  rw [okList_mut _ _ (by show 3 ≤ SL; decide)]
  simp only [wp_ok, bind_ok]
  exact ⟨_, rfl, rfl, ns.reverse, _, 0, by simpa using hn, rfl⟩
end M
namespace M
open PySem
theorem SL_val : SL = 16777216 := Nat.le_antisymm (Nat.le_refl _) (Nat.le_refl _)
theorem call_succ {G : Tab} {k i : Nat} {fn : Fn} {vs : List Val} {h : Heap} (e : G i = some fn) : callN G (k + 1) i vs h = runF (callN G k) fn vs h := by
  show (match G i with
    | some fn => runF (callN G k) fn vs h
    | none => .stuck) = _
  rw [e]
def notS (v : Val) : Prop := okA v = true ∧ ∀ s, v ≠ .str s
theorem p_isi0 {v : Val} (n : notS v) (h : Heap) : evP (.isi [0]) [v] h = .ok (.bool false) h := by
  obtain ⟨a, b⟩ := n
  cases v <;> first | rfl | exact absurd rfl (b _) | cases a
theorem p_isi0s (s : T) (h : Heap) : evP (.isi [0]) [.str s] h = .ok (.bool true) h := rfl
theorem sIx_nat {n d : Nat} {v : Int} (h : 0 ≤ v) : sIx n d (some v) = min v.toNat n := by unfold sIx; simp only; rw [if_neg (by omega)]
theorem sIx_neg {n d : Nat} {v : Int} (h : v < 0) : sIx n d (some v) = (v + (n : Int)).toNat := by unfold sIx; simp only; rw [if_pos h]
theorem sIx_none {n d : Nat} : sIx n d none = d := rfl
theorem atI_zero (c : Nat) (r : T) : atI (c :: r) 0 = some c := by
  unfold atI ixN
  simp
theorem atI_last {s : T} {n : Nat} (h : s.length = n + 1) : atI s (-1) = s[n]? := by
  unfold atI ixN
  have e : ((-1 : Int) + ((n + 1 : Nat) : Int)).toNat = n := by omega
  rw [if_neg (by decide), if_pos (by rw [h]; omega), h, e]
  rfl
theorem mem_dec {L : List Nat} {p : Nat → Bool} (h : ∀ c, c < 128 → decide (c ∈ L) = p c) (hL : ∀ x ∈ L, x < 128) (hp : ∀ c, 128 ≤ c → p c = false) (c : Nat) : decide (c ∈ L) = p c := by
  by_cases z : c < 128
  · exact h c z
  · rw [hp c (by omega), decide_eq_false_iff_not]
    exact fun m => z (hL c m)
/-! ### texts -/
def joinT (sep : T) : List T → T
  | [] => []
  | [p] => p
  | p :: q :: r => p ++ (sep ++ joinT sep (q :: r))
theorem join_toS (sep : T) : ∀ ss : List T, (PySem.Txt.join (toS sep) (ss.map toS)) = toS (joinT sep ss) := by
  intro ss
  rw [TL.join_eq]
  induction ss with
  | nil => rfl
  | cons p r ih =>
    cases r with
    | nil => rfl
    | cons q r =>
      show toS p ++ toS sep ++ Str.join (toS sep) ((q :: r).map toS) = toS (p ++ (sep ++ joinT sep (q :: r)))
      rw [ih]
      apply Str.ext'
      simp [toS, Str.cps_append]
def ascL (s : T) : Bool := s.all fun c => decide (c < 128)
theorem asc_of {s : T} (h : ascL s = true) (l : s.length ≤ SL) : asc s = true := by
  unfold asc
  rw [Bool.and_eq_true]
  exact ⟨h, decide_eq_true l⟩
theorem ascL_app {s t : T} (h : ascL s = true) (k : ascL t = true) : ascL (s ++ t) = true := by
  unfold ascL at *
  rw [List.all_append, h, k]; rfl
theorem ascL_join {sep : T} (h : ascL sep = true) : ∀ {ss : List T}, (∀ s ∈ ss, ascL s = true) → ascL (joinT sep ss) = true
  | [], _ => rfl
  | [p], k => k p (by simp)
  | p :: q :: r, k => ascL_app (k p (by simp)) (ascL_app h (ascL_join h fun s hs => k s (List.mem_cons_of_mem _ hs)))
theorem joinT_len {sep : T} : ∀ ss : List T, (joinT sep ss).length ≤ (ss.map (·.length)).sum + ss.length * sep.length
  | [] => Nat.zero_le _
  | [p] => by simp [joinT]
  | p :: q :: r => by
    have ih := joinT_len (sep := sep) (q :: r)
    show (p ++ (sep ++ joinT sep (q :: r))).length ≤ _
    rw [List.length_append, List.length_append]
    have e : (p :: q :: r).length * sep.length = sep.length + (q :: r).length * sep.length := by
      rw [List.length_cons, Nat.add_mul, Nat.one_mul, Nat.add_comm]
    rw [e, List.map_cons, List.sum_cons]
    omega
theorem joinT_nil (ss : List T) : joinT [] ss = ss.flatten := by
  induction ss with
  | nil => rfl
  | cons p r ih =>
    cases r with
    | nil => simp [joinT]
    | cons q r => simp only [joinT, List.nil_append, ih, List.flatten_cons]
theorem textsOf_map : ∀ ss : List T, textsOf (ss.map Val.str) = some ss
  | [] => rfl
  | s :: r => by simp only [List.map_cons, textsOf, textsOf_map r, Option.map_some]
theorem toS_cpsL (s : T) : (toS s).cps.toList = s := by simp [toS]
theorem strR_ok {s : T} (h : Heap) (k : ascL s = true) (l : s.length ≤ SL) : strR (toS s) h = .ok (.str s) h := by
  unfold strR
  rw [toS_cpsL, if_pos (asc_of k l)]
theorem p_join {sep : T} {ss : List T} (h : Heap) (k : ascL (joinT sep ss) = true) (l : (ss.map (·.length)).sum + ss.length * sep.length ≤ SL) : evP .join [.str sep, .list (ss.map .str)] h = .ok (.str (joinT sep ss)) h := by
  have e : evP .join [.str sep, .list (ss.map .str)] h = (match (some (ss.map Val.str)).bind textsOf with
    | some ss => if (ss.map (·.length)).sum + ss.length * sep.length ≤ SL then strR (PySem.Txt.join (toS sep) (ss.map toS)) h else .stuck
    | none => .stuck) := rfl
  rw [e, Option.bind_some, textsOf_map]
  simp only
  rw [if_pos l, join_toS, strR_ok h k (Nat.le_trans (joinT_len ss) l)]
def upC (c : Nat) : Nat := if 97 ≤ c ∧ c ≤ 122 then c - 32 else c
theorem upper_toS : ∀ {s : T}, ascL s = true → PySem.Txt.upper (toS s) = toS (s.map upC)
  | [], _ => by decide +kernel
  | c :: r, h => by
    have h' := Bool.and_eq_true_iff.mp (show (decide (c < 128) && ascL r) = true from h)
    have e : toS (c :: r) = (⟨#[c]⟩ : Str) ++ toS r := by
      apply Str.ext'
      simp [toS, Str.cps_append]
    rw [e, PySem.W.KOpn.upper_app, upper_toS h'.2, PySem.W.KOpn.upper_one (of_decide_eq_true h'.1)]
    apply Str.ext'
    simp [toS, Str.cps_append, upC]
theorem ascL_up {s : T} (h : ascL s = true) : ascL (s.map upC) = true := by
  unfold ascL at *
  rw [List.all_map]
  rw [List.all_eq_true] at *
  intro c hc
  have := of_decide_eq_true (h c hc)
  apply decide_eq_true
  show upC c < 128
  unfold upC
  split <;> omega
theorem p_upper {s : T} (h : Heap) (k : ascL s = true) (l : s.length ≤ 5000000) : evP .upper [.str s] h = .ok (.str (s.map upC)) h := by
  have e : evP .upper [.str s] h = if s.length ≤ 5000000 then strR (PySem.Txt.upper (toS s)) h else .stuck := rfl
  rw [e, if_pos l, upper_toS k, strR_ok h (ascL_up k) (by rw [List.length_map]; exact Nat.le_trans l (by decide))]
theorem p_repr {v : Val} (h : Heap) (a : okA v = true) (f : (v.flat || v.tupd) = true) (d : v.deep ≤ 64) (l : wt v ≤ SL) : evP .repr [v] h = .ok (.str (reprT v)) h := by
  have e : dr h v = some v := by
    cases v <;> first | rfl | cases a
  show reprV h v = _
  unfold reprV
  rw [e]
  simp only
  rw [f, okA_few a, asc_repr a l, if_pos (by simp [d])]
theorem p_str_int {i : Int} (h : Heap) (k : i.natAbs < 2 ^ 1000) : evP .str [.int i] h = .ok (.str ((toString i : String) : Str).cps.toList) h := by
  have e : evP .str [.int i] h = if i.natAbs < 2 ^ 1000 then strR (toString i) h else .stuck := rfl
  rw [e, if_pos k]
  unfold strR
  rw [if_pos (low_asc (int_low k) (by decide))]
theorem p_all {A : Type} (f : A → Bool) (xs : List A) (h : Heap) : evP .all [.list (xs.map fun x => .bool (f x))] h = .ok (.bool (xs.all f)) h := by
  have e : boolsOf (xs.map fun x => Val.bool (f x)) = some (xs.map f) := by
    induction xs with
    | nil => rfl
    | cons x r ih => simp only [List.map_cons, boolsOf, ih, Option.map_some]
  show optB (((some (xs.map fun x => Val.bool (f x))).bind boolsOf).map fun bs => bs.all id) h = _
  simp only [Option.bind_some, e, Option.map_some, optB, List.all_map]
  rfl
theorem p_any {A : Type} (f : A → Bool) (xs : List A) (h : Heap) : evP .any [.list (xs.map fun x => .bool (f x))] h = .ok (.bool (xs.any f)) h := by
  have e : boolsOf (xs.map fun x => Val.bool (f x)) = some (xs.map f) := by
    induction xs with
    | nil => rfl
    | cons x r ih => simp only [List.map_cons, boolsOf, ih, Option.map_some]
  show optB (((some (xs.map fun x => Val.bool (f x))).bind boolsOf).map fun bs => bs.any id) h = _
  simp only [Option.bind_some, e, Option.map_some, optB, List.any_map]
  rfl
/-! ### == and in, of data -/
theorem p_eq {a b : Val} (h : Heap) (ha : a.flat = true) (hb : b.flat = true) (da : a.deep ≤ 64) (db : b.deep ≤ 64) : evP .eq [a, b] h = .ok (.bool (eqv a b)) h := by
  have ea : dr h a = some a := by cases a <;> first | rfl | cases ha
  have eb : dr h b = some b := by cases b <;> first | rfl | cases hb
  show optB (eqV h a b) h = _
  unfold eqV
  rw [ea, eb]
  simp only [ha, hb, da, db, decide_true, Bool.and_self, if_true, optB]
theorem p_ne {a b : Val} (h : Heap) (ha : a.flat = true) (hb : b.flat = true) (da : a.deep ≤ 64) (db : b.deep ≤ 64) : evP .ne [a, b] h = .ok (.bool (!eqv a b)) h := by
  have ea : dr h a = some a := by cases a <;> first | rfl | cases ha
  have eb : dr h b = some b := by cases b <;> first | rfl | cases hb
  show optB ((eqV h a b).map (!·)) h = _
  unfold eqV
  rw [ea, eb]
  simp only [ha, hb, da, db, decide_true, Bool.and_self, if_true, optB, Option.map_some]
theorem eqvs_nil (xs : List Val) : eqvs xs [] = xs.isEmpty := by cases xs <;> rfl
theorem flats_strs : ∀ c : List T, Val.flats (c.map .str) = true
  | [] => rfl
  | _ :: c => by simp [Val.flats, Val.flat, flats_strs c]
theorem deeps_strs : ∀ c : List T, Val.deeps (c.map .str) = 0
  | [] => rfl
  | _ :: c => by simp [Val.deeps, Val.deep, deeps_strs c]
theorem memV_strs (s : T) : ∀ ts : List T, memV (.str s) (ts.map .str) = ts.contains s
  | [] => rfl
  | t :: ts => by
    show (eqv (.str t) (.str s) || memV (.str s) (ts.map .str)) = _
    rw [memV_strs s ts]
    show ((t == s) || ts.contains s) = (t :: ts).contains s
    rw [List.contains_cons, Bool.beq_comm]
/-- a list of texts is empty -/
theorem p_eq_empty (ss : List T) (h : Heap) : evP .eq [.list (ss.map .str), .list []] h = .ok (.bool ss.isEmpty) h := by
  rw [p_eq h (by show Val.flats _ = true; exact flats_strs ss) rfl (by show Val.deeps _ + 1 ≤ 64; rw [deeps_strs]; decide) (by decide)]
  show Res.ok (Val.bool (eqvs (ss.map .str) [])) h = _
  rw [eqvs_nil, List.isEmpty_map]
theorem p_ne_empty (ss : List T) (h : Heap) : evP .ne [.list (ss.map .str), .list []] h = .ok (.bool (!ss.isEmpty)) h := by
  rw [p_ne h (by show Val.flats _ = true; exact flats_strs ss) rfl (by show Val.deeps _ + 1 ≤ 64; rw [deeps_strs]; decide) (by decide)]
  show Res.ok (Val.bool (!eqvs (ss.map .str) [])) h = _
  rw [eqvs_nil, List.isEmpty_map]
theorem p_mem_tup (s : T) (ts : List T) (h : Heap) : evP .mem [.str s, .tup (ts.map .str)] h = .ok (.bool (ts.contains s)) h := by
  show optB (inV h (.str s) (.tup (ts.map .str))) h = _
  have e : inV h (.str s) (.tup (ts.map .str)) = some (ts.contains s) := by
    unfold inV
    simp only [dr, Val.flat, flats_strs, Val.deep, deeps_strs, memV_strs]
    rfl
  rw [e]; rfl
theorem p_mem_list (s : T) (ts : List T) (h : Heap) : evP .mem [.str s, .list (ts.map .str)] h = .ok (.bool (ts.contains s)) h := by
  show optB (inV h (.str s) (.list (ts.map .str))) h = _
  have e : inV h (.str s) (.list (ts.map .str)) = some (ts.contains s) := by
    unfold inV
    simp only [dr, Val.flat, flats_strs, Val.deep, deeps_strs, memV_strs]
    rfl
  rw [e]; rfl
theorem p_notmem_tup (s : T) (ts : List T) (h : Heap) : evP .notmem [.str s, .tup (ts.map .str)] h = .ok (.bool (!ts.contains s)) h := by
  have e : evP .notmem [.str s, .tup (ts.map .str)] h = optB ((inV h (.str s) (.tup (ts.map .str))).map (!·)) h := rfl
  have e2 : inV h (.str s) (.tup (ts.map .str)) = some (ts.contains s) := by
    unfold inV
    simp only [dr, Val.flat, flats_strs, Val.deep, deeps_strs, memV_strs]
    rfl
  rw [e, e2]; rfl
theorem p_notmem_list (s : T) (ts : List T) (h : Heap) : evP .notmem [.str s, .list (ts.map .str)] h = .ok (.bool (!ts.contains s)) h := by
  have e : evP .notmem [.str s, .list (ts.map .str)] h = optB ((inV h (.str s) (.list (ts.map .str))).map (!·)) h := rfl
  have e2 : inV h (.str s) (.list (ts.map .str)) = some (ts.contains s) := by
    unfold inV
    simp only [dr, Val.flat, flats_strs, Val.deep, deeps_strs, memV_strs]
    rfl
  rw [e, e2]; rfl
theorem le_sign (c d : Nat) (h : Heap) : evP .le [.str [c], .str [d]] h = .ok (.bool (decide (c ≤ d))) h := by
  have e : evP .le [.str [c], .str [d]] h = .ok (.bool (!ltT [d] [c])) h := rfl
  rw [e]
  have : (!ltT [d] [c]) = decide (c ≤ d) := by
    simp only [ltT]
    by_cases z : c ≤ d
    · have : ¬ d < c := by omega
      simp only [this, if_false, z, decide_true]
      split <;> rfl
    · have : d < c := by omega
      simp [this, z]
  rw [this]
/-! ### comprehensions over a text -/
theorem comp_str_map {step : Val → Heap → Res (List Val)} {h : Heap} {s : T} (f : Nat → Val) (k : ∀ c ∈ s, step (.str [c]) h = .ok [f c] h) : turns none step (s.map fun c => .str [c]) h = .ok (s.map f) h := by
  rw [turns_pure (g := fun v => match v with
    | .str [c] => [f c]
    | _ => []) rfl fun x hx => by
      obtain ⟨c, hc, rfl⟩ := List.mem_map.mp hx
      exact k c hc]
  rw [List.flatMap_map]
  congr 1
  exact flatMap_one f s
theorem comp_str_filter {step : Val → Heap → Res (List Val)} {h : Heap} {s : T} (p : Nat → Bool) (k : ∀ c ∈ s, step (.str [c]) h = .ok (if p c then [.str [c]] else []) h) : turns none step (s.map fun c => .str [c]) h = .ok (((s.filter p).map fun c => [c]).map .str) h := by
  rw [turns_pure (g := fun v => match v with
    | .str [c] => if p c then [.str [c]] else []
    | _ => []) rfl fun x hx => by
      obtain ⟨c, hc, rfl⟩ := List.mem_map.mp hx
      exact k c hc]
  rw [List.flatMap_map]
  congr 1
  clear k
  induction s with
  | nil => rfl
  | cons c r ih =>
    rw [List.flatMap_cons, ih, List.filter_cons]
    cases z : p c <;> simp [z]
end M
namespace M
open PySem
/-! ### drawing -/
theorem Dk.more {rest l h : Heap} (d : Dk (rest ++ l) h) : ∃ h0, Dk rest h0 ∧ h = h0 ++ l := by
  obtain ⟨c, s, t, hc, rfl⟩ := d
  exact ⟨deck c s t ++ rest, ⟨c, s, t, hc, rfl⟩, by simp⟩
def fDraw : Fn := ⟨2, 4, false, bDraw⟩
theorem draw_at {G : Tab} {k i : Nat} {m : Int} {rest h : Heap} (e : G i = some fDraw) (hm : 0 < m) (hm2 : m < 1073741824) (hd : Dk rest h) :
    Wp (callN G (k + 1) i [.ref 1, .int m] h) fun v h' => (∃ r, v = .int r ∧ 0 ≤ r ∧ r < m) ∧ Dk rest h' := by
  rw [call_succ e]
  exact draw_ok hm hm2 hd
/-- an item of a list at a number that lies in it -/
theorem atI_mem {A : Type} {xs : List A} {i : Int} (h0 : 0 ≤ i) (h1 : i < xs.length) : ∃ x ∈ xs, atI xs i = some x := by
  rw [atI_nat h0 h1]
  have l : i.toNat < xs.length := by omega
  exact ⟨xs[i.toNat], List.getElem_mem l, List.getElem?_eq_getElem l⟩
/-- signs that are drawn, joined -/
theorem signs_of {P : Nat → Prop} {R : Val → Val → Prop} (hR : ∀ x y, R x y → ∃ c, y = .str [c] ∧ P c) : ∀ {xs l : List Val}, F2 R xs l → ∃ t : T, l = (t.map fun c => [c]).map .str ∧ (∀ c ∈ t, P c) ∧ t.length = xs.length
  | _, _, .nil => ⟨[], rfl, by simp, rfl⟩
  | _, _, .cons h t => by
    obtain ⟨c, rfl, pc⟩ := hR _ _ h
    obtain ⟨s, rfl, ps, ls⟩ := signs_of hR t
    exact ⟨c :: s, rfl, fun d hd => by
      rcases List.mem_cons.mp hd with rfl | hd
      · exact pc
      · exact ps d hd, by simp [ls]⟩
theorem texts_of {P : T → Prop} {R : Val → Val → Prop} (hR : ∀ x y, R x y → ∃ c, y = .str c ∧ P c) : ∀ {xs l : List Val}, F2 R xs l → ∃ t : List T, l = t.map .str ∧ (∀ c ∈ t, P c) ∧ t.length = xs.length
  | _, _, .nil => ⟨[], rfl, by simp, rfl⟩
  | _, _, .cons h t => by
    obtain ⟨c, rfl, pc⟩ := hR _ _ h
    obtain ⟨s, rfl, ps, ls⟩ := texts_of hR t
    exact ⟨c :: s, rfl, fun d hd => by
      rcases List.mem_cons.mp hd with rfl | hd
      · exact pc
      · exact ps d hd, by simp [ls]⟩
theorem ints_of {P : Int → Prop} {R : Val → Val → Prop} (hR : ∀ x y, R x y → ∃ c, y = .int c ∧ P c) : ∀ {xs l : List Val}, F2 R xs l → ∃ t : List Int, l = t.map .int ∧ (∀ c ∈ t, P c) ∧ t.length = xs.length
  | _, _, .nil => ⟨[], rfl, by simp, rfl⟩
  | _, _, .cons h t => by
    obtain ⟨c, rfl, pc⟩ := hR _ _ h
    obtain ⟨s, rfl, ps, ls⟩ := ints_of hR t
    exact ⟨c :: s, rfl, fun d hd => by
      rcases List.mem_cons.mp hd with rfl | hd
      · exact pc
      · exact ps d hd, by simp [ls]⟩
theorem flatten_ones (t : T) : (t.map fun c => [c]).flatten = t := by
  induction t with
  | nil => rfl
  | cons c r ih => rw [List.map_cons, List.flatten_cons, ih]; rfl
theorem ascL_iff {s : T} : ascL s = true ↔ ∀ c ∈ s, c < 128 := by
  unfold ascL
  rw [List.all_eq_true]
  exact ⟨fun h c hc => of_decide_eq_true (h c hc), fun h c hc => decide_eq_true (h c hc)⟩
theorem p_join_signs {t : T} (h : Heap) (k : ∀ c ∈ t, c < 128) (l : t.length ≤ SL) : evP .join [.str [], .list ((t.map fun c => [c]).map .str)] h = .ok (.str t) h := by
  have e : joinT [] (t.map fun c => [c]) = t := by rw [joinT_nil, flatten_ones]
  rw [p_join h (by rw [e]; exact ascL_iff.mpr k) ?_, e]
  have : ∀ t : T, (((t.map fun c => [c]) : List T).map (·.length)).sum = t.length := fun t => by
    induction t with
    | nil => rfl
    | cons c r ih => simp only [List.map_cons, List.sum_cons, ih, List.length_cons, List.length_nil]; omega
  rw [this]
  simpa using l
theorem ascL_cut {s : T} (h : ascL s = true) (a b : Option Int) : ascL (cut s a b) = true := by
  rw [ascL_iff] at *
  intro c hc
  unfold cut at hc
  exact h c (List.mem_of_mem_drop (List.mem_of_mem_take hc))
theorem cut_lenL {A : Type} (s : List A) (a b : Option Int) : (cut s a b).length ≤ s.length := by
  unfold cut
  rw [List.length_take, List.length_drop]
  omega
theorem cut_mem {A : Type} {s : List A} {a b : Option Int} {x : A} (h : x ∈ cut s a b) : x ∈ s := by
  unfold cut at h
  exact List.mem_of_mem_drop (List.mem_of_mem_take h)
theorem okT_app {s t : T} {h : Heap} (hs : s.length ≤ 1000000) (ht : t.length ≤ 1000000) : okT (s ++ t) h = .ok (.str (s ++ t)) h := okT_ok _ _ (by
  rw [List.length_append]
  have : SL = 16777216 := rfl
  omega)
theorem okT_app3 {s t u : T} {h : Heap} (hs : s.length ≤ 1000000) (ht : t.length ≤ 1000000) (hu : u.length ≤ 1000000) : okT ((s ++ t) ++ u) h = .ok (.str ((s ++ t) ++ u)) h := okT_ok _ _ (by
  rw [List.length_append, List.length_append]
  have : SL = 16777216 := rfl
  omega)
theorem p_mul_str {s : T} {j : Int} {h : Heap} (l : s.length * j.toNat ≤ SL) (h1 : j < 1000000000) (h2 : -1000000000 < j) : evP .mul [.str s, .int j] h = .ok (.str (List.replicate j.toNat s).flatten) h := by
  show (if s.length * j.toNat ≤ SL ∧ j < 1000000000 ∧ -1000000000 < j then _ else _) = _
  rw [if_pos ⟨l, h1, h2⟩]
theorem range_one {j : Int} (h : -RL ≤ j) (h' : j ≤ RL) : itRange [.int j] = some (rangeL 0 j.toNat) := by
  show (if -RL ≤ j ∧ j ≤ RL then _ else _) = _
  rw [if_pos ⟨h, h'⟩]
theorem range_two {i j : Int} (h1 : -RL ≤ i) (h2 : i ≤ RL) (h : -RL ≤ j) (h' : j ≤ RL) : itRange [.int i, .int j] = some (rangeL i (j - i).toNat) := by
  show (if -RL ≤ i ∧ i ≤ RL ∧ -RL ≤ j ∧ j ≤ RL then _ else _) = _
  rw [if_pos ⟨h1, h2, h, h'⟩]
theorem evB_app (cl : CallFn) : ∀ (a b : List MS) (ls : Loc) (h : Heap), evB cl (a ++ b) ls h = (evB cl a ls h).bind fun f h => match f with
    | .nx ls => evB cl b ls h
    | f => .ok f h
  | [], b, ls, h => rfl
  | s :: a, b, ls, h => by
    rw [List.cons_append, b_cons, b_cons]
    cases evS cl s ls h with
    | ok f h1 =>
      cases f with
      | nx ls1 => exact evB_app cl a b ls1 h1
      | ret v => rfl
      | brk l => rfl
    | exc _ _ => rfl
    | stuck => rfl
/-- some statements that are reckoned at once -/
theorem wp_block {cl : CallFn} {a b : List MS} {ls ls' : Loc} {h h' : Heap} {Q : Flow → Heap → Prop} (e : evB cl a ls h = .ok (.nx ls') h') (q : Wp (evB cl b ls' h') Q) : Wp (evB cl (a ++ b) ls h) Q := by
  rw [evB_app, e]
  exact q
theorem run_top {cl : CallFn} {fn : Fn} {vs : List Val} (hn : vs.length = fn.n) (hk : fn.keep = false) (e : Wp (evB cl fn.body (vs.map some ++ List.replicate (fn.slots - fn.n) none) []) fun f _ => f = .ret (.bool true)) : Wp (runF cl fn vs []) fun v _ => v = .bool true := by
  unfold runF
  rw [if_pos hn]
  cases z : evB cl fn.body (vs.map some ++ List.replicate (fn.slots - fn.n) none) [] with
  | ok f h' =>
    rw [z] at e
    have e : f = .ret (.bool true) := e
    subst e
    show Wp (dropTo fn.keep [] (.bool true) h') _
    unfold dropTo
    rw [hk]
    show Wp (if (true && okDrop 0 [] h') = true then Res.ok (Val.bool true) (h'.take 0) else .stuck) _
    have : okDrop 0 [] h' = true := by cases h' <;> rfl
    rw [this]
    rfl
  | exc _ _ => rw [z] at e; exact e.elim
  | stuck => rw [z] at e; exact e.elim
end M
namespace M
open PySem
local macro_rules | `(tactic| decreasing_trivial) => `(tactic| try simp only [wp_bind, wp_ok, bind_ok, e_lit, e_var, e_prim, e_and, e_or, e_not, e_ite, e_chain, e_call, e_comp, e_frz, e_meth, es_nil, es_cons, c_nil, c_cons, i_val, i_range, i_enum, i_zip, s_asg, s_par, s_asg2, setsTg, s_aug, s_expr, s_ite, s_wh, s_for, s_ret, s_brk, t_ev, st_nil, st_cons, st_name, st_tup, st_ix,
  List.getElem?_cons_zero, List.getElem?_cons_succ, List.set_cons_zero, List.set_cons_succ, List.map_cons, List.map_nil, List.cons_append, List.nil_append, List.append_nil, List.replicate_succ, List.replicate_zero, selV, Option.map_some,
  p_add_int, p_add_str, p_add_tup, p_add_list, p_sub, p_neg, p_eq_int, p_ne_int, p_eq_str, p_ne_str, p_lt, p_gt, p_le, p_ge, p_isNone, p_isNotNone, p_isTrue, p_isFalse, p_isNotTrue, p_isNotFalse, p_mem_sign, p_notmem_sign, p_ix_str, p_ix_list, p_ix_tup, optV_some, p_sl11, p_sl10, p_sl01, p_sl00, sl_str, sl_list, sl_tup, p_rev_str, p_rev_list, p_rev_tup, p_tup, p_list, p_len_str, p_len_list, p_len_tup, p_min2, p_max2, p_int_bool, p_int_int, p_bool, p_str_str, p_ord, p_listOf_list, p_listOf_tup, p_tupOf_list, p_tupOf_tup, truth_bool, truth_int, truth_str, truth_list, truth_tup, if_tt, if_ff, if_true, if_false, it_list, it_tup, it_str,
  okList_ok, okTup_ok, SL_val, List.length_cons, List.length_nil, Nat.reduceAdd, Nat.reduceLeDiff, Nat.zero_add, killL, List.foldl_cons, List.foldl_nil, setTg])
local macro_rules | `(tactic| get_elem_tactic_trivial) => `(tactic| exact pr_ret rfl)
def B_sums_of_1 : List MS := [.expr (.meth .append (.var 1) [(.prim .add [(.prim .ix [(.var 1), (.prim .neg [(.lit (.int 1))])]), (.var 2)])])]
/-- sums_of lengths found length -/
def B_sums_of : List MS := [.asg [.name 1] (.prim (.list true) [(.lit (.int 0))]), .for (.name 2) (.val (.var 0)) B_sums_of_1, .ret (.frz (.var 1))]
def F_sums_of : Fn := ⟨1, 3, false, B_sums_of⟩
/-- line_cost sums weights frame start stop first further wide column signs cost -/
def B_line_cost : List MS := [.asg [.tup [5, 6, 7]] (.var 2), .asg [.name 8] (.ite (.prim .eq [(.var 3), (.lit (.int 0))]) (.var 5) (.var 6)), .asg [.name 9] (.prim .sub [(.prim .sub [(.prim .add [(.prim .sub [(.prim .add [(.var 8), (.prim .ix [(.var 0), (.var 4)])]), (.prim .ix [(.var 0), (.var 3)])]), (.var 4)]), (.var 3)]), (.lit (.int 1))]), .asg [.name 10] (.prim .mul [(.lit (.int 1000)), (.prim .max2 [(.lit (.int 0)), (.prim .sub [(.var 9), (.var 7)])])]), .ite (.prim .lt [(.var 4), (.prim .sub [(.prim .len [(.var 0)]), (.lit (.int 1))])]) [.aug 10 .add (.prim .ix [(.var 1), (.prim .sub [(.var 4), (.lit (.int 1))])])] [], .ret (.var 10)]
def F_line_cost : Fn := ⟨5, 11, false, B_line_cost⟩
def B_breaks_cost_1 (i_line_cost : Nat) : List MS := [.aug 4 .add (.call i_line_cost [(.var 0), (.var 1), (.var 2), (.var 5), (.var 6)] [] [.inl 0, .inl 1, .inl 2, .inl 3, .inl 4]), .asg [.name 5] (.var 6)]
/-- breaks_cost sums weights frame breaks cost start stop number -/
def B_breaks_cost (i_line_cost : Nat) : List MS := [.asg2 4 5 (.lit (.int 0)), .for (.name 6) (.val (.prim .add [(.comp false [7] (.name 7) (.val (.var 3)) [] (.prim .add [(.var 7), (.lit (.int 1))])), (.prim (.list false) [(.prim .sub [(.prim .len [(.var 0)]), (.lit (.int 1))])])])) (B_breaks_cost_1 i_line_cost), .ret (.var 4)]
def F_breaks_cost (i_line_cost : Nat) : Fn := ⟨4, 8, false, B_breaks_cost i_line_cost⟩
/-- are_numbers thing one -/
def B_are_numbers : List MS := [.ret (.and (.prim (.isi [3]) [(.var 0)]) (.prim .all [(.comp false [1] (.name 1) (.val (.var 0)) [] (.and (.prim (.isi [1]) [(.var 1)]) (.not (.prim (.isi [2]) [(.var 1)]))))]))]
def F_are_numbers : Fn := ⟨1, 2, false, B_are_numbers⟩
/-- are_breaks many thing one other -/
def B_are_breaks (i_are_numbers : Nat) : List MS := [.ite (.or (.not (.call i_are_numbers [(.var 1)] [] [.inl 0])) (.not (.prim .all [(.comp false [2] (.name 2) (.val (.var 1)) [] (.chain .le .lt (.lit (.int 0)) (.var 2) (.prim .sub [(.var 0), (.lit (.int 1))])))]))) [.ret (.lit (.bool false))] [], .ret (.prim .all [(.comp false [2, 3] (.tup [2, 3]) (.zip (.prim (.sl false true) [(.var 1), (.prim .neg [(.lit (.int 1))])]) (.prim (.sl true false) [(.var 1), (.lit (.int 1))])) [] (.prim .lt [(.var 2), (.var 3)]))])]
def F_are_breaks (i_are_numbers : Nat) : Fn := ⟨2, 4, false, B_are_breaks i_are_numbers⟩
def B_are_worths_2 (i_are_numbers : Nat) (i_line_cost : Nat) : List MS := [.ite (.prim .gt [(.prim .ix [(.var 3), (.var 4)]), (.prim .add [(.prim .ix [(.var 3), (.var 5)]), (.call i_line_cost [(.var 0), (.var 1), (.var 2), (.var 5), (.var 4)] [] [.inl 0, .inl 1, .inl 2, .inl 3, .inl 4])])]) [.ret (.lit (.bool false))] []]
def B_are_worths_1 (i_are_numbers : Nat) (i_line_cost : Nat) : List MS := [.for (.name 5) (.range [(.var 4)]) (B_are_worths_2 i_are_numbers i_line_cost)]
/-- are_worths sums weights frame thing stop start -/
def B_are_worths (i_are_numbers : Nat) (i_line_cost : Nat) : List MS := [.ite (.or (.not (.call i_are_numbers [(.var 3)] [] [.inl 0])) (.or (.prim .ne [(.prim .len [(.var 3)]), (.prim .len [(.var 0)])]) (.prim .ne [(.prim .ix [(.var 3), (.lit (.int 0))]), (.lit (.int 0))]))) [.ret (.lit (.bool false))] [], .for (.name 4) (.range [(.lit (.int 1)), (.prim .len [(.var 0)])]) (B_are_worths_1 i_are_numbers i_line_cost), .ret (.lit (.bool true))]
def F_are_worths (i_are_numbers : Nat) (i_line_cost : Nat) : Fn := ⟨4, 6, false, B_are_worths i_are_numbers i_line_cost⟩
/-- least_holds lengths weights thing first further width sums frame breaks worths -/
def B_least_holds (i_are_breaks : Nat) (i_are_worths : Nat) (i_breaks_cost : Nat) (i_sums_of : Nat) : List MS := [.par [6, 7] [(.call i_sums_of [(.var 0)] [] [.inl 0]), (.prim .tup [(.var 3), (.var 4), (.var 5)])], .ite (.or (.not (.prim (.isi [3]) [(.var 2)])) (.prim .ne [(.prim .len [(.var 2)]), (.lit (.int 2))])) [.ret (.lit (.bool false))] [], .asg [.tup [8, 9]] (.var 2), .ite (.or (.not (.call i_are_breaks [(.prim .len [(.var 0)]), (.var 8)] [] [.inl 0, .inl 1])) (.not (.call i_are_worths [(.var 6), (.var 1), (.var 7), (.var 9)] [] [.inl 0, .inl 1, .inl 2, .inl 3]))) [.ret (.lit (.bool false))] [], .ret (.prim .eq [(.call i_breaks_cost [(.var 6), (.var 1), (.var 7), (.var 8)] [] [.inl 0, .inl 1, .inl 2, .inl 3]), (.prim .ix [(.var 9), (.prim .neg [(.lit (.int 1))])])])]
def F_least_holds (i_are_breaks : Nat) (i_are_worths : Nat) (i_breaks_cost : Nat) (i_sums_of : Nat) : Fn := ⟨6, 10, false, B_least_holds i_are_breaks i_are_worths i_breaks_cost i_sums_of⟩
/-! ### loops with what is gone through -/
theorem for_pre {pin : Pin} {step : Val → Loc → Heap → Res Flow} {I : List Val → Loc → Heap → Prop} {Q : Flow → Heap → Prop} (hp : ∀ pre ls h, I pre ls h → pinned h pin = true) : ∀ {xs pre : List Val} {ls : Loc} {h : Heap}, I pre ls h →
    (∀ p x q, p ++ x :: q = pre ++ xs → ∀ ls h, I p ls h → Wp (step x ls h) fun f h' => match f with
      | .nx ls => I (p ++ [x]) ls h'
      | .ret v => Q (.ret v) h'
      | .brk ls => Q (.nx ls) h') → (∀ ls h, I (pre ++ xs) ls h → Q (.nx ls) h) → Wp (forL pin step xs ls h) Q
  | [], pre, ls, h, i, _, d => by
    unfold forL
    rw [if_pos (hp pre ls h i)]
    rw [List.append_nil] at d
    exact d ls h i
  | x :: r, pre, ls, h, i, k, d => by
    unfold forL
    rw [if_pos (hp pre ls h i), wp_bind]
    refine (k pre x r rfl ls h i).mono fun f h1 q => ?_
    have e : (pre ++ [x]) ++ r = pre ++ x :: r := by simp
    cases f with
    | nx ls1 => exact for_pre hp q (fun p y t ht => k p y t (by rw [ht, e])) (by rw [e]; exact d)
    | ret v => exact q
    | brk ls1 => exact q
theorem comp_int_map {step : Val → Heap → Res (List Val)} {h : Heap} {s : List Int} (f : Int → Val) (k : ∀ c ∈ s, step (.int c) h = .ok [f c] h) : turns none step (s.map .int) h = .ok (s.map f) h := by
  rw [turns_pure (g := fun v => match v with
    | .int c => [f c]
    | _ => []) rfl fun x hx => by
      obtain ⟨c, hc, rfl⟩ := List.mem_map.mp hx
      exact k c hc]
  rw [List.flatMap_map]
  congr 1
  exact flatMap_one f s
theorem comp_map {step : Val → Heap → Res (List Val)} {h : Heap} {s : List Val} (f : Val → Val) (k : ∀ c ∈ s, step c h = .ok [f c] h) : turns none step s h = .ok (s.map f) h := by
  rw [turns_pure (g := fun v => [f v]) rfl fun x hx => k x hx]
  congr 1
  exact flatMap_one f s
/-! ### kinds -/
def isI : Val → Bool
  | .int _ => true
  | _ => false
def isB : Val → Bool
  | .bool _ => true
  | _ => false
def isT : Val → Bool
  | .tup _ => true
  | _ => false
theorem p_isi1 {v : Val} (a : okA v = true) (h : Heap) : evP (.isi [1]) [v] h = .ok (.bool (isI v || isB v)) h := by
  cases v <;> first | rfl | cases a
theorem p_isi2 {v : Val} (a : okA v = true) (h : Heap) : evP (.isi [2]) [v] h = .ok (.bool (isB v)) h := by
  cases v <;> first | rfl | cases a
theorem p_isi3 {v : Val} (a : okA v = true) (h : Heap) : evP (.isi [3]) [v] h = .ok (.bool (isT v)) h := by
  cases v <;> first | rfl | cases a
theorem okAs_mem : ∀ {xs : List Val}, okAs xs = true → ∀ x ∈ xs, okA x = true
  | [], _, x, h => by cases h
  | y :: r, e, x, h => by
    have e' := Bool.and_eq_true_iff.mp (show (okA y && okAs r) = true from e)
    rcases List.mem_cons.mp h with rfl | h
    · exact e'.1
    · exact okAs_mem e'.2 x h
theorem all_ints : ∀ {xs : List Val}, xs.all isI = true → ∃ is : List Int, xs = is.map .int
  | [], _ => ⟨[], rfl⟩
  | x :: r, h => by
    have h' := Bool.and_eq_true_iff.mp (show (isI x && r.all isI) = true from h)
    obtain ⟨is, rfl⟩ := all_ints h'.2
    cases x with
    | int i => exact ⟨i :: is, rfl⟩
    | _ => cases h'.1
theorem ints_all (is : List Int) : (is.map Val.int).all isI = true := by
  rw [List.all_map]
  exact List.all_eq_true.mpr fun _ _ => rfl
/-! ### numbers -/
def numsB : Val → Bool
  | .tup xs => xs.all isI
  | _ => false
section
variable {G : Tab} {k : Nat}
theorem nums_ok {i : Nat} (e : G i = some F_are_numbers) {v : Val} {h : Heap} (a : okA v = true) (l : ∀ xs, v = .tup xs → xs.length ≤ SL) : callN G (k + 1) i [v] h = .ok (.bool (numsB v)) h := by
  rw [call_succ e]
  refine run_pure rfl rfl rfl ?_
  show Wp (evB _ B_are_numbers [some v, none] h) _
  refine wp_one ?_
  decreasing_trivial
  simp only [p_isi3 a, wp_ok, bind_ok, truth_bool]
  cases v with
  | tup xs =>
    simp only [isT, if_tt, if_true]
    decreasing_trivial
    refine Wp.of_eq (comp_map (fun x => .bool (isI x)) fun x hx => ?_) ?_
    · have ax := okAs_mem a x hx
      decreasing_trivial
      simp only [p_isi1 ax, bind_ok, truth_bool]
      cases x <;> first | (cases ax; done) | skip
      all_goals first | rfl | simp only [isI, isB, Bool.or_self, Bool.or_true, Bool.true_or, if_tt, if_true, if_ff, if_false, bind_ok, truth_bool]
      all_goals first | rfl | (decreasing_trivial; rfl)
    · rw [okList_ok _ _ (by rw [List.length_map]; exact l xs rfl), wp_ok, p_all]
      exact pr_ret rfl
  | _ => first | (cases a; done) | (simp only [isT, if_ff, if_false, wp_ok]; exact pr_ret rfl)

/-! ### sums -/
def scanI (a : Int) : List Int → List Int
  | [] => [a]
  | x :: r => a :: scanI (a + x) r
theorem scanI_len : ∀ (a : Int) (l : List Int), (scanI a l).length = l.length + 1
  | _, [] => rfl
  | a, x :: r => by simp [scanI, scanI_len]
theorem scanI_snoc : ∀ (a : Int) (l : List Int) (x : Int), scanI a (l ++ [x]) = scanI a l ++ [(a + l.sum) + x]
  | a, [], x => by simp [scanI]
  | a, y :: r, x => by
    show a :: scanI (a + y) (r ++ [x]) = _
    rw [scanI_snoc]
    simp [scanI, Int.add_assoc]
theorem scanI_last : ∀ (a : Int) (l : List Int), (scanI a l).getLast? = some (a + l.sum)
  | a, [] => by simp [scanI]
  | a, y :: r => by
    have ih := scanI_last (a + y) r
    show (a :: scanI (a + y) r).getLast? = _
    have ne : scanI (a + y) r ≠ [] := by cases r <;> simp [scanI]
    rw [List.getLast?_cons, ih]
    simp [Int.add_assoc]
theorem atI_last' {A : Type} {xs : List A} {a : A} (h : xs.getLast? = some a) : atI xs (-1) = some a := by
  have l : 0 < xs.length := by
    cases xs with
    | nil => cases h
    | cons _ _ => simp
  unfold atI ixN
  rw [if_neg (by decide), if_pos (by omega)]
  have e : ((-1 : Int) + (xs.length : Int)).toNat = xs.length - 1 := by omega
  rw [e, Option.bind_some, ← List.getLast?_eq_getElem?]
  exact h
theorem frz_ok {n : Nat} {xs : List Val} {h : Heap} (e : h[n]? = some (.list xs)) : frzV (.ref n) h = .ok (.list xs) (h.set n .dead) := by
  unfold frzV
  simp only [e]
theorem ix_ref {n : Nat} {xs : List Val} {h : Heap} (e : h[n]? = some (.list xs)) (i : Int) : evP .ix [.ref n, .int i] h = optV (atI xs i) h := by
  have d : dr h (.ref n) = some (.list xs) := by
    show (match h[n]? with
      | some (.list xs) => some (Val.list xs)
      | some (.dict ks vs) => some (.dict ks vs)
      | _ => none) = _
    rw [e]
  show optV (match dr h (.ref n) with
    | some (.str s) => (atI s i).map fun c => .str [c]
    | some (.list xs) => atI xs i
    | some (.tup xs) => atI xs i
    | _ => none) h = _
  rw [d]
theorem append_ref {n : Nat} {xs : List Val} {h : Heap} {v : Val} (e : h[n]? = some (.list xs)) (l : xs.length < SL) : evP .append [.ref n, v] h = .ok .none (h.set n (.list (xs ++ [v]))) := by
  show lst1 h n (fun xs => if xs.length < SL then .ok .none (h.set n (.list (xs ++ [v]))) else .stuck) = _
  unfold lst1
  rw [e]
  simp only
  rw [if_pos l]
theorem recv_append {n : Nat} {xs : List Val} {h : Heap} (e : h[n]? = some (.list xs)) : recv .append (.ref n) h = true := by
  show (match h[n]? with
    | some (.list _) => true
    | _ => false) = true
  rw [e]
theorem at_end (h : Heap) (o : Obj) (t : Heap) : (h ++ o :: t)[h.length]? = some o := by simp
theorem set_end (h : Heap) (o o' : Obj) (t : Heap) : (h ++ o :: t).set h.length o' = h ++ o' :: t := by simp
theorem sums_ok {i : Nat} (e : G i = some F_sums_of) {ls : List Int} {h : Heap} (l : ls.length < 1000000) : callN G (k + 1) i [.tup (ls.map .int)] h = .ok (.list ((scanI 0 ls).map .int)) h := by
  rw [call_succ e]
  refine run_pure rfl rfl (flat_lt (flats_ints _)) ?_
  show Wp (evB _ B_sums_of [some (.tup (ls.map .int)), none, none] h) _
  refine wp_seq ?_
  decreasing_trivial
  rw [okList_mut _ _ (by show 1 ≤ SL; decide)]
  decreasing_trivial
  refine wp_seq ?_
  decreasing_trivial
  refine for_pre (pre := []) (I := fun pre ls' h' => ∃ ps : List Int, ∃ x, pre = ps.map .int ∧ ls' = [some (.tup (ls.map .int)), some (.ref h.length), x] ∧ h' = h ++ [.list ((scanI 0 ps).map .int)]) (fun _ _ _ _ => rfl) ⟨[], none, rfl, rfl, rfl⟩ (fun p x q hf ls' h' ⟨ps, y, e1, e2, e3⟩ => ?_) (fun ls' h' ⟨ps, y, e1, e2, e3⟩ => ?_)
  · subst e1 e2 e3
    have hx : x ∈ ls.map Val.int := by
      have : x ∈ ps.map Val.int ++ x :: q := by simp
      rw [hf] at this
      exact this
    obtain ⟨i, hi, rfl⟩ := List.mem_map.mp hx
    have lp : ps.length < 1000000 := by
      have := congrArg List.length hf
      simp at this
      omega
    have at0 : (h ++ [Obj.list ((scanI 0 ps).map .int)] : Heap)[h.length]? = some (.list ((scanI 0 ps).map .int)) := at_end _ _ _
    have la : atI ((scanI 0 ps).map Val.int) (-1) = some (.int (0 + ps.sum)) := atI_last' (by rw [List.getLast?_map, scanI_last]; rfl)
    have SLv : SL = 16777216 := rfl
    decreasing_trivial
    refine wp_one ?_
    decreasing_trivial
    simp only [recv_append at0, if_tt, if_true, ix_ref at0, la, optV_some, wp_ok, bind_ok]
    decreasing_trivial
    simp only [ix_ref at0, la, optV_some, wp_ok, bind_ok, p_add_int, append_ref at0 (show ((scanI 0 ps).map Val.int).length < SL by rw [List.length_map, scanI_len]; omega), set_end]
    exact ⟨ps ++ [i], _, by simp, rfl, by rw [scanI_snoc, List.map_append]; rfl⟩
  · subst e2 e3
    have ep : ps = ls := by
      have e1 : ls.map Val.int = ps.map Val.int := e1
      have : ∀ {a b : List Int}, a.map Val.int = b.map Val.int → a = b := fun {a} => by
        induction a with
        | nil => intro b z; cases b with
          | nil => rfl
          | cons _ _ => cases z
        | cons x r ih => intro b z; cases b with
          | nil => cases z
          | cons y s =>
            simp only [List.map_cons, List.cons.injEq, Val.int.injEq] at z
            rw [z.1, ih z.2]
      exact (this e1).symm
    subst ep
    refine wp_one ?_
    decreasing_trivial
    rw [frz_ok (at_end _ _ _)]
    decreasing_trivial
    exact ⟨rfl, [.dead], by rw [set_end]⟩
/-! ### what a line costs -/
def lcost (S W : List Int) (a b w : Int) (i j : Nat) : Int :=
  1000 * max 0 ((if i = 0 then a else b) + S.getD j 0 - S.getD i 0 + j - i - 1 - w) + (if j < S.length - 1 then W.getD (j - 1) 0 else 0)
theorem atI_getD {xs : List Int} {n : Nat} {z : Int} (e : z = (n : Int)) (h : n < xs.length) : atI (xs.map Val.int) z = some (.int (xs.getD n 0)) := by
  subst e
  rw [atI_nat (by omega) (by rw [List.length_map]; omega), Int.toNat_natCast, List.getElem?_map, List.getElem?_eq_getElem h]
  simp [List.getD, h]
theorem line_ok {i : Nat} (e : G i = some F_line_cost) {S W : List Int} {a b w : Int} {s t : Nat} {zs zt : Int} {h : Heap} (es : zs = s) (et : zt = t) (h1 : s < S.length) (h2 : t < S.length) (h3 : t < S.length - 1 → t - 1 < W.length ∧ 1 ≤ t) :
    callN G (k + 1) i [.list (S.map .int), .tup (W.map .int), .tup [.int a, .int b, .int w], .int zs, .int zt] h = .ok (.int (lcost S W a b w s t)) h := by
  rw [call_succ e]
  refine run_pure rfl rfl rfl ?_
  show Wp (evB _ B_line_cost [some (.list (S.map .int)), some (.tup (W.map .int)), some (.tup [.int a, .int b, .int w]), some (.int zs), some (.int zt), none, none, none, none, none, none] h) _
  refine wp_seq ?_
  decreasing_trivial
  refine wp_seq ?_
  decreasing_trivial
  have ec : (Wp (if (zs == 0) = true then Res.ok (Val.int a) h else Res.ok (Val.int b) h)) = Wp (.ok (.int (if s = 0 then a else b)) h) := by
    by_cases z : s = 0
    · rw [if_pos z, if_pos (by rw [es, z]; rfl)]
    · rw [if_neg z, if_neg (by rw [es]; simpa using z)]
  rw [ec]
  decreasing_trivial
  refine wp_seq ?_
  decreasing_trivial
  rw [atI_getD et h2]
  decreasing_trivial
  rw [atI_getD es h1]
  decreasing_trivial
  refine wp_seq ?_
  decreasing_trivial
  rw [p_mul_int _ 1000 _ (by rfl)]
  decreasing_trivial
  refine wp_seq ?_
  decreasing_trivial
  have em : ∀ z : Int, (if z > 0 then z else 0) = max 0 z := fun z => by
    by_cases q : z > 0
    · rw [if_pos q]; omega
    · rw [if_neg q]; omega
  refine wp_if (fun q => ?_) fun q => ?_
  · have q : t < S.length - 1 := by
      have := of_decide_eq_true q
      rw [List.length_map] at this
      omega
    obtain ⟨w1, w2⟩ := h3 q
    refine wp_one ?_
    decreasing_trivial
    rw [atI_getD (n := t - 1) (by omega) w1]
    decreasing_trivial
    simp only [augV, bind_ok, wp_ok, List.set_cons_succ, List.set_cons_zero]
    refine wp_one ?_
    decreasing_trivial
    refine pr_ret ?_
    unfold lcost
    rw [if_pos q, em, es, et]
  · have q : ¬ t < S.length - 1 := by
      have := of_decide_eq_false q
      rw [List.length_map] at this
      omega
    simp only [b_nil, wp_ok]
    refine wp_one ?_
    decreasing_trivial
    refine pr_ret ?_
    unfold lcost
    rw [if_neg q, em, es, et, Int.add_zero]

/-! ### what breaks cost -/
def bco (S W : List Int) (a b w : Int) : Nat → List Nat → Int
  | _, [] => 0
  | s, t :: r => lcost S W a b w s t + bco S W a b w t r
def lastD : List Nat → Nat → Nat
  | [], d => d
  | x :: r, _ => lastD r x
theorem lastD_snoc : ∀ (l : List Nat) (d x : Nat), lastD (l ++ [x]) d = x
  | [], _, _ => rfl
  | y :: r, d, x => lastD_snoc r y x
theorem bco_snoc (S W : List Int) (a b w : Int) : ∀ (s : Nat) (l : List Nat) (t : Nat), bco S W a b w s (l ++ [t]) = bco S W a b w s l + lcost S W a b w (lastD l s) t
  | s, [], t => by simp [bco, lastD]
  | s, x :: r, t => by
    show lcost S W a b w s x + bco S W a b w x (r ++ [t]) = lcost S W a b w s x + bco S W a b w x r + lcost S W a b w (lastD r x) t
    rw [bco_snoc S W a b w x r t]
    omega
/-- the places where lines stop -/
def stopsOf (S : List Int) (bs : List Int) : List Nat := bs.map (fun x => (x + 1).toNat) ++ [S.length - 1]
theorem lastD_mem : ∀ (l : List Nat) (d : Nat), lastD l d = d ∨ lastD l d ∈ l
  | [], d => .inl rfl
  | x :: r, d => by
    rcases lastD_mem r x with h | h
    · exact .inr (by show lastD r x ∈ x :: r; rw [h]; exact List.mem_cons_self)
    · exact .inr (List.mem_cons_of_mem _ h)
theorem nat_map_inj : ∀ {a b : List Nat}, (a.map fun n : Nat => Val.int (n : Int)) = b.map (fun n : Nat => Val.int (n : Int)) → a = b
  | [], [], _ => rfl
  | [], _ :: _, h => by cases h
  | _ :: _, [], h => by cases h
  | x :: r, y :: s, h => by
    simp only [List.map_cons, List.cons.injEq, Val.int.injEq] at h
    rw [Int.ofNat_inj.mp h.1, nat_map_inj h.2]
theorem bcost_ok {i il : Nat} (e : G i = some (F_breaks_cost il)) (el : G il = some F_line_cost) {S W bs : List Int} {a b w : Int} {h : Heap} (hS : 2 ≤ S.length) (hS2 : S.length ≤ 1000000) (hW : S.length ≤ W.length + 2) (hb : ∀ x ∈ bs, 0 ≤ x ∧ x < (S.length : Int) - 2) (hbl : bs.length ≤ 1000000) :
    callN G (k + 2) i [.list (S.map .int), .tup (W.map .int), .tup [.int a, .int b, .int w], .tup (bs.map .int)] h = .ok (.int (bco S W a b w 0 (stopsOf S bs))) h := by
  rw [call_succ e]
  refine run_pure rfl rfl rfl ?_
  show Wp (evB _ (B_breaks_cost il) [some (.list (S.map .int)), some (.tup (W.map .int)), some (.tup [.int a, .int b, .int w]), some (.tup (bs.map .int)), none, none, none, none] h) _
  have SLv : SL = 16777216 := rfl
  refine wp_seq ?_
  decreasing_trivial
  refine wp_seq ?_
  decreasing_trivial
  refine Wp.of_eq (comp_int_map (fun c => .int (c + 1)) fun c _ => ?_) ?_
  · decreasing_trivial
  rw [okList_ok _ _ (by rw [List.length_map]; omega)]
  decreasing_trivial
  have es : (bs.map fun c => Val.int (c + 1)) ++ [Val.int (((S.map Val.int).length : Int) - 1)] = (stopsOf S bs).map fun n : Nat => Val.int (n : Int) := by
    unfold stopsOf
    rw [List.map_append, List.map_map]
    congr 1
    · refine List.map_congr_left fun x hx => ?_
      show Val.int (x + 1) = Val.int (((x + 1).toNat : Nat) : Int)
      have := (hb x hx).1
      congr 1
      omega
    · simp only [List.map_cons, List.map_nil, List.length_map]
      congr 2
      omega
  rw [es, okList_ok _ _ (by unfold stopsOf; simp; omega)]
  decreasing_trivial
  have hst : ∀ n ∈ stopsOf S bs, 1 ≤ n ∧ n < S.length := fun n hn => by
    unfold stopsOf at hn
    rcases List.mem_append.mp hn with hn | hn
    · obtain ⟨x, hx, rfl⟩ := List.mem_map.mp hn
      have := hb x hx
      omega
    · simp at hn
      omega
  refine for_pre (pre := []) (I := fun pre ls' h' => ∃ ps : List Nat, ∃ x, pre = (ps.map fun n : Nat => Val.int (n : Int)) ∧ (∀ n ∈ ps, n ∈ stopsOf S bs) ∧ h' = h ∧
    ls' = [some (.list (S.map .int)), some (.tup (W.map .int)), some (.tup [.int a, .int b, .int w]), some (.tup (bs.map .int)), some (.int (bco S W a b w 0 ps)), some (.int (lastD ps 0 : Nat)), x, none]) (fun _ _ _ _ => rfl) ⟨[], none, rfl, by simp, rfl, rfl⟩ (fun p x q hf ls' h' ⟨ps, y, e1, e2, e3, e4⟩ => ?_) (fun ls' h' ⟨ps, y, e1, e2, e3, e4⟩ => ?_)
  · subst e1 e3 e4
    have hx : x ∈ (stopsOf S bs).map fun n : Nat => Val.int (n : Int) := by
      have : x ∈ (ps.map fun n : Nat => Val.int (n : Int)) ++ x :: q := by simp
      rw [hf] at this
      exact this
    obtain ⟨n, hn, rfl⟩ := List.mem_map.mp hx
    have hn1 := hst n hn
    have hl : lastD ps 0 < S.length := by
      rcases lastD_mem ps 0 with z | z
      · rw [z]; omega
      · exact (hst _ (e2 _ z)).2
    decreasing_trivial
    refine wp_seq ?_
    decreasing_trivial
    rw [line_ok el (s := lastD ps 0) (t := n) rfl rfl hl hn1.2 (fun z => ⟨by omega, hn1.1⟩)]
    simp only [augV, bind_ok, wp_ok, List.set_cons_succ, List.set_cons_zero]
    refine wp_one ?_
    decreasing_trivial
    exact ⟨ps ++ [n], _, by simp, fun m hm => by
      rcases List.mem_append.mp hm with hm | hm
      · exact e2 m hm
      · simp at hm; rw [hm]; exact hn, trivial, by rw [bco_snoc, lastD_snoc]⟩
  · subst e3 e4
    have ep : stopsOf S bs = ps := nat_map_inj e1
    rw [ep]
    refine wp_one ?_
    decreasing_trivial
    get_elem_tactic_trivial
/-! ### breaks -/
def getI : Val → Int
  | .int i => i
  | _ => 0
def items : Val → List Val
  | .tup xs => xs
  | _ => []
def rising : List Int → Bool
  | a :: b :: r => decide (a < b) && rising (b :: r)
  | _ => true
def breaksB (n : Int) (v : Val) : Bool := numsB v && ((items v).all fun x => decide (0 ≤ getI x) && decide (getI x < n - 1)) && rising ((items v).map getI)
theorem getI_map (is : List Int) : (is.map Val.int).map getI = is := by
  rw [List.map_map]
  exact List.map_id is
def pairsV : List Int → List Val
  | a :: b :: r => .tup [.int a, .int b] :: pairsV (b :: r)
  | _ => []
theorem pairs_zip : ∀ is : List Int, zipL (is.map Val.int).dropLast (is.map Val.int).tail = pairsV is
  | [] => rfl
  | [_] => rfl
  | a :: b :: r => by
    show Val.tup [.int a, .int b] :: zipL ((b :: r).map Val.int).dropLast ((b :: r).map Val.int).tail = _
    rw [pairs_zip (b :: r)]
    rfl
theorem pairs_rising : ∀ is : List Int, (pairsV is).all (fun v => match v with
    | .tup [.int a, .int b] => decide (a < b)
    | _ => false) = rising is
  | [] => rfl
  | [_] => rfl
  | a :: b :: r => by
    show (decide (a < b) && (pairsV (b :: r)).all _) = _
    rw [pairs_rising (b :: r)]
    rfl
theorem pairs_form : ∀ {is : List Int} {v : Val}, v ∈ pairsV is → ∃ a b, v = .tup [.int a, .int b]
  | [], v, h => by cases h
  | [_], v, h => by cases h
  | a :: b :: r, v, h => by
    rcases List.mem_cons.mp (show v ∈ Val.tup [.int a, .int b] :: pairsV (b :: r) from h) with rfl | h
    · exact ⟨a, b, rfl⟩
    · exact pairs_form h
theorem pairs_len : ∀ is : List Int, (pairsV is).length ≤ is.length
  | [] => Nat.le_refl _
  | [_] => Nat.zero_le _
  | a :: b :: r => by
    have := pairs_len (b :: r)
    show (pairsV (b :: r)).length + 1 ≤ (b :: r).length + 1
    omega
theorem cut_front {A : Type} (xs : List A) : cut xs none (some (-1)) = xs.dropLast := by
  unfold cut
  rw [sIx_none, sIx_neg (by decide), List.drop_zero, List.dropLast_eq_take]
  congr 1
  omega
theorem cut_tail {A : Type} (xs : List A) : cut xs (some 1) none = xs.tail := by
  unfold cut
  rw [sIx_none, sIx_nat (by decide)]
  cases xs with
  | nil => rfl
  | cons x r =>
    have : min (Int.toNat 1) (x :: r).length = 1 := by
      show min 1 (r.length + 1) = 1
      omega
    rw [this]
    simp
theorem chain_ok {cl : CallFn} {ls : Loc} {h : Heap} {n c : Int} (h2 : ls[2]? = some (some (.int c))) (h0 : ls[0]? = some (some (.int n))) : evE cl (.chain .le .lt (.lit (.int 0)) (.var 2) (.prim .sub [.var 0, .lit (.int 1)])) ls h = .ok (.bool (decide (0 ≤ c) && decide (c < n - 1))) h := by
  simp only [e_chain, e_lit, e_var, e_prim, es_cons, es_nil, h2, h0, bind_ok, p_le, p_sub]
  cases decide (0 ≤ c)
  · rfl
  · simp only [p_lt, Bool.true_and]
theorem breaks_ok {i ia : Nat} (e : G i = some (F_are_breaks ia)) (ea : G ia = some F_are_numbers) {n : Int} {v : Val} {h : Heap} (a : okA v = true) (l : ∀ xs, v = .tup xs → xs.length ≤ SL) : callN G (k + 2) i [.int n, v] h = .ok (.bool (breaksB n v)) h := by
  rw [call_succ e]
  refine run_pure rfl rfl rfl ?_
  show Wp (evB _ (B_are_breaks ia) [some (.int n), some v, none, none] h) _
  refine wp_seq ?_
  decreasing_trivial
  rw [nums_ok ea a l]
  decreasing_trivial
  unfold breaksB
  cases hn : numsB v with
  | false =>
    decreasing_trivial
    simp only [Bool.not_false, if_tt, if_true, Bool.false_and, wp_ok, truth_bool]
    refine wp_one ?_
    decreasing_trivial
    get_elem_tactic_trivial
  | true =>
    cases v with
    | tup xs =>
      obtain ⟨is, rfl⟩ := all_ints hn
      have hl : is.length ≤ SL := by simpa using l _ rfl
      decreasing_trivial
      simp only [Bool.not_true, if_ff, if_false, Bool.true_and, items]
      decreasing_trivial
      refine Wp.of_eq (comp_int_map (fun c => .bool (decide (0 ≤ c) && decide (c < n - 1))) fun c _ => ?_) ?_
      · decreasing_trivial
        cases decide (0 ≤ c) <;> rfl
      · rw [okList_ok _ _ (by rw [List.length_map]; exact hl), wp_ok, p_all]
        have e0 : (is.map Val.int).all (fun x => decide (0 ≤ getI x) && decide (getI x < n - 1)) = is.all fun c => decide (0 ≤ c) && decide (c < n - 1) := by
          rw [List.all_map]; rfl
        rw [e0, getI_map]
        decreasing_trivial
        cases is.all fun c => decide (0 ≤ c) && decide (c < n - 1) with
        | false =>
          simp only [Bool.not_false, if_tt, if_true, Bool.false_and]
          refine wp_one ?_
          decreasing_trivial
          get_elem_tactic_trivial
        | true =>
          simp only [Bool.not_true, if_ff, if_false, Bool.true_and, b_nil, wp_ok]
          refine wp_one ?_
          decreasing_trivial
          simp only [cut_front, cut_tail, zipR, wp_ok, pairs_zip]
          refine Wp.of_eq (comp_map (fun v => .bool (match v with
            | .tup [.int a, .int b] => decide (a < b)
            | _ => false)) fun c hc => ?_) ?_
          · obtain ⟨x, y, rfl⟩ := pairs_form hc
            decreasing_trivial
          · rw [okList_ok _ _ (by rw [List.length_map]; exact Nat.le_trans (pairs_len is) hl), wp_ok, p_all, pairs_rising]
            get_elem_tactic_trivial
    | _ => cases hn

/-! ### worths -/
theorem for_search {pin : Pin} {step : Val → Loc → Heap → Res Flow} {I : Loc → Heap → Prop} {p : Val → Bool} {v : Val} {R : Heap → Prop} (hp : ∀ ls h, I ls h → pinned h pin = true) : ∀ {xs : List Val} {ls : Loc} {h : Heap}, I ls h →
    (∀ x ∈ xs, ∀ ls h, I ls h → Wp (step x ls h) fun f h' => (p x = true ∧ f = .ret v ∧ R h') ∨ (p x = false ∧ ∃ ls', f = .nx ls' ∧ I ls' h')) →
    Wp (forL pin step xs ls h) fun f h' => (xs.any p = true ∧ f = .ret v ∧ R h') ∨ (xs.any p = false ∧ ∃ ls', f = .nx ls' ∧ I ls' h')
  | [], ls, h, i, _ => by
    unfold forL
    rw [if_pos (hp ls h i)]
    exact .inr ⟨rfl, ls, rfl, i⟩
  | x :: r, ls, h, i, k => by
    unfold forL
    rw [if_pos (hp ls h i), wp_bind]
    refine (k x List.mem_cons_self ls h i).mono fun f h1 q => ?_
    rcases q with ⟨q1, rfl, q3⟩ | ⟨q1, ls1, rfl, q3⟩
    · exact .inl ⟨by rw [List.any_cons, q1]; rfl, rfl, q3⟩
    · refine (for_search hp q3 fun y hy => k y (List.mem_cons_of_mem _ hy)).mono fun f h2 z => ?_
      rw [List.any_cons, q1, Bool.false_or]
      exact z
/-- a worth that is too great -/
def tooB (S W : List Int) (a b w : Int) (T : List Int) (j i : Nat) : Bool := decide (T.getD j 0 > T.getD i 0 + lcost S W a b w i j)
def tooV (S W : List Int) (a b w : Int) (T : List Int) (v : Val) : Bool := (rangeL 0 (getI v).toNat).any fun u => tooB S W a b w T (getI v).toNat (getI u).toNat
def worthsB (S W : List Int) (a b w : Int) (v : Val) : Bool := numsB v && ((items v).length == S.length) && (((items v).map getI).getD 0 0 == 0) && !((rangeL 1 (S.length - 1)).any (tooV S W a b w ((items v).map getI)))
theorem worths_ok {i ia il : Nat} (e : G i = some (F_are_worths ia il)) (ea : G ia = some F_are_numbers) (el : G il = some F_line_cost) {S W : List Int} {a b w : Int} {v : Val} {h : Heap} (hS : 2 ≤ S.length) (hS2 : S.length ≤ 1000000) (hW : S.length ≤ W.length + 2)
    (av : okA v = true) (l : ∀ xs, v = .tup xs → xs.length ≤ SL) : callN G (k + 2) i [.list (S.map .int), .tup (W.map .int), .tup [.int a, .int b, .int w], v] h = .ok (.bool (worthsB S W a b w v)) h := by
  rw [call_succ e]
  refine run_pure rfl rfl rfl ?_
  show Wp (evB _ (B_are_worths ia il) [some (.list (S.map .int)), some (.tup (W.map .int)), some (.tup [.int a, .int b, .int w]), some v, none, none] h) _
  refine wp_seq ?_
  decreasing_trivial
  rw [nums_ok ea av l]
  decreasing_trivial
  unfold worthsB
  cases hn : numsB v with
  | false =>
    decreasing_trivial
    simp only [Bool.not_false, if_tt, if_true, Bool.false_and, wp_ok, truth_bool]
    refine wp_one ?_
    decreasing_trivial
    get_elem_tactic_trivial
  | true =>
    cases v with
    | tup xs =>
      obtain ⟨T, rfl⟩ := all_ints hn
      decreasing_trivial
      simp only [Bool.not_true, if_ff, if_false, Bool.true_and, items, getI_map]
      decreasing_trivial
      have el1 : ((((T.map Val.int).length : Nat) : Int) == (((S.map Val.int).length : Nat) : Int)) = (T.length == S.length) := by
        rw [List.length_map, List.length_map, Bool.eq_iff_iff, beq_iff_eq, beq_iff_eq]
        exact Int.ofNat_inj
      have el2 : ((T.map Val.int).length == S.length) = (T.length == S.length) := by rw [List.length_map]
      rw [el1, el2]
      by_cases hl : T.length = S.length
      · have hlb : (T.length == S.length) = true := by simpa using hl
        rw [hlb]
        decreasing_trivial
        simp only [Bool.not_true, if_ff, if_false, Bool.true_and]
        rw [atI_getD (z := 0) (n := 0) rfl (by omega)]
        decreasing_trivial
        cases h0 : (T.getD 0 0 == 0) with
        | false =>
          simp only [Bool.not_false, if_tt, if_true, Bool.false_and]
          refine wp_one ?_
          decreasing_trivial
          get_elem_tactic_trivial
        | true =>
          simp only [Bool.not_true, if_ff, if_false, Bool.true_and, b_nil, wp_ok]
          refine wp_seq ?_
          decreasing_trivial
          have RLv : RL = 1000000000 := rfl
          rw [range_two (by decide) (by decide) (by omega) (by rw [List.length_map]; omega)]
          have en : (((((S.map Val.int).length : Nat) : Int) - 1).toNat) = S.length - 1 := by rw [List.length_map]; omega
          decreasing_trivial
          rw [en]
          refine (for_search (p := tooV S W a b w T) (v := .bool false) (R := fun h' => h' = h) (I := fun ls' h' => h' = h ∧ ∃ x y, ls' = [some (.list (S.map .int)), some (.tup (W.map .int)), some (.tup [.int a, .int b, .int w]), some (.tup (T.map .int)), x, y]) (fun _ _ _ => rfl) ⟨rfl, _, _, rfl⟩ (fun x hx ls' h' ⟨e1, y, z, e2⟩ => ?_)).mono fun f h1 q => ?_
          · subst e1 e2
            obtain ⟨j, rfl, j1, j2⟩ := rangeL_mem hx
            decreasing_trivial
            refine wp_one ?_
            decreasing_trivial
            rw [range_one (by omega) (by omega)]
            decreasing_trivial
            refine (for_search (p := fun u => tooB S W a b w T j.toNat (getI u).toNat) (v := .bool false) (R := fun h'' => h'' = h') (I := fun ls' h'' => h'' = h' ∧ ∃ y, ls' = [some (.list (S.map .int)), some (.tup (W.map .int)), some (.tup [.int a, .int b, .int w]), some (.tup (T.map .int)), some (.int j), y]) (fun _ _ _ => rfl) ⟨rfl, _, rfl⟩ (fun x hx ls' h'' ⟨e1, y, e2⟩ => ?_)).mono fun f h1 q => ?_
            · subst e1 e2
              obtain ⟨s, rfl, s1, s2⟩ := rangeL_mem hx
              decreasing_trivial
              refine wp_one ?_
              decreasing_trivial
              rw [atI_getD (n := j.toNat) (by omega) (by omega)]
              decreasing_trivial
              rw [atI_getD (n := s.toNat) (by omega) (by omega)]
              decreasing_trivial
              rw [line_ok (k := k) el (s := s.toNat) (t := j.toNat) (by omega) (by omega) (by omega) (by omega) (fun z => ⟨by omega, by omega⟩)]
              decreasing_trivial
              refine wp_if (fun q => ?_) fun q => ?_
              · refine wp_one ?_
                decreasing_trivial
                exact .inl ⟨q, trivial, trivial⟩
              · simp only [b_nil, wp_ok]
                exact .inr ⟨q, _, rfl, trivial, _, rfl⟩
            · rcases q with ⟨q1, rfl, rfl⟩ | ⟨q1, ls1, rfl, rfl, y, rfl⟩
              · exact .inl ⟨q1, rfl, rfl⟩
              · exact .inr ⟨q1, _, rfl, rfl, _, _, rfl⟩
          · rcases q with ⟨q1, rfl, rfl⟩ | ⟨q1, ls1, rfl, rfl, x, y, rfl⟩
            · rw [q1]
              exact pr_ret rfl
            · rw [q1]
              refine wp_one ?_
              decreasing_trivial
              get_elem_tactic_trivial
      · have hlb : (T.length == S.length) = false := by simpa using hl
        rw [hlb]
        decreasing_trivial
        simp only [Bool.not_false, if_tt, if_true, Bool.false_and, wp_ok, truth_bool]
        refine wp_one ?_
        decreasing_trivial
        get_elem_tactic_trivial
    | _ => cases hn

/-! ### the checker -/
def holdsB (ls W : List Int) (a b w : Int) (v : Val) : Bool := match v with
  | .tup [x, y] => breaksB ls.length x && worthsB (scanI 0 ls) W a b w y && (bco (scanI 0 ls) W a b w 0 (stopsOf (scanI 0 ls) ((items x).map getI)) == ((items y).map getI).getLast?.getD 0)
  | _ => false
theorem holdsB_pair (ls W : List Int) (a b w : Int) (x y : Val) : holdsB ls W a b w (.tup [x, y]) = (breaksB ls.length x && worthsB (scanI 0 ls) W a b w y && (bco (scanI 0 ls) W a b w 0 (stopsOf (scanI 0 ls) ((items x).map getI)) == ((items y).map getI).getLast?.getD 0)) := rfl
theorem len_eq2 (xs : List Val) : (((xs.length : Nat) : Int) == 2) = decide (xs.length = 2) := by
  by_cases z : xs.length = 2
  · rw [z]; rfl
  · rw [decide_eq_false z, beq_eq_false_iff_ne]
    intro q
    exact z (by omega)
theorem holds_ok {i ib iw ic is ia il : Nat} (e : G i = some (F_least_holds ib iw ic is)) (eb : G ib = some (F_are_breaks ia)) (ew : G iw = some (F_are_worths ia il)) (ec : G ic = some (F_breaks_cost il)) (es : G is = some F_sums_of) (ea : G ia = some F_are_numbers) (el : G il = some F_line_cost)
    {ls W : List Int} {a b w : Int} {v : Val} {h : Heap} (h1 : 1 ≤ ls.length) (h2 : ls.length ≤ 100000) (hW : ls.length ≤ W.length + 1) (av : okA v = true) (lv : wt v ≤ 1000000) :
    callN G (k + 3) i [.tup (ls.map .int), .tup (W.map .int), v, .int a, .int b, .int w] h = .ok (.bool (holdsB ls W a b w v)) h := by
  rw [call_succ e]
  refine run_pure rfl rfl rfl ?_
  show Wp (evB _ (B_least_holds ib iw ic is) [some (.tup (ls.map .int)), some (.tup (W.map .int)), some v, some (.int a), some (.int b), some (.int w), none, none, none, none] h) _
  have sl : (scanI 0 ls).length = ls.length + 1 := scanI_len _ _
  have SLv : SL = 16777216 := rfl
  have wtl : ∀ xs : List Val, xs.length ≤ wts xs := fun xs => by
    induction xs with
    | nil => exact Nat.zero_le _
    | cons x r ih => show r.length + 1 ≤ wt x + 2 + wts r; omega
  refine wp_seq ?_
  decreasing_trivial
  rw [sums_ok (k := k + 1) es (by omega)]
  decreasing_trivial
  refine wp_seq ?_
  decreasing_trivial
  rw [p_isi3 av]
  decreasing_trivial
  cases v with
  | tup xs =>
    simp only [isT, Bool.not_true, if_ff, if_false]
    decreasing_trivial
    simp only [len_eq2]
    by_cases h2 : xs.length = 2
    · obtain ⟨x, y, rfl⟩ : ∃ x y, xs = [x, y] := by
        match xs, h2 with
        | [x, y], _ => exact ⟨x, y, rfl⟩
      have ax : okA x = true := okAs_mem av x (by simp)
      have ay : okA y = true := okAs_mem av y (by simp)
      have lw : wt x + 2 + (wt y + 2 + 0) + 3 ≤ 1000000 := lv
      have lx : ∀ zs, x = .tup zs → zs.length ≤ SL := fun zs z => by
        have : wt x = wts zs + 3 := by rw [z]; rfl
        have := wtl zs
        omega
      have ly : ∀ zs, y = .tup zs → zs.length ≤ SL := fun zs z => by
        have : wt y = wts zs + 3 := by rw [z]; rfl
        have := wtl zs
        omega
      simp only [List.length_cons, List.length_nil, decide_true, Bool.not_true, truth_bool, wp_ok, if_ff, if_false, b_nil]
      decreasing_trivial
      refine wp_seq ?_
      decreasing_trivial
      refine wp_seq ?_
      decreasing_trivial
      rw [breaks_ok (k := k) eb ea ax lx]
      decreasing_trivial
      rw [List.length_map]
      rw [holdsB_pair]
      cases hb : breaksB ls.length x with
      | false =>
        decreasing_trivial
        simp only [Bool.not_false, if_tt, if_true, Bool.false_and, wp_ok, truth_bool]
        refine wp_one ?_
        decreasing_trivial
        get_elem_tactic_trivial
      | true =>
        decreasing_trivial
        simp only [Bool.not_true, if_ff, if_false, Bool.true_and]
        decreasing_trivial
        rw [worths_ok (k := k) ew ea el (by omega) (by omega) (by omega) ay ly]
        decreasing_trivial
        cases hw : worthsB (scanI 0 ls) W a b w y with
        | false =>
          simp only [Bool.not_false, if_tt, if_true, Bool.false_and]
          refine wp_one ?_
          decreasing_trivial
          get_elem_tactic_trivial
        | true =>
          simp only [Bool.not_true, if_ff, if_false, Bool.true_and, b_nil, wp_ok]
          have hb' := hb
          have hw' := hw
          unfold breaksB at hb'
          unfold worthsB at hw'
          simp only [Bool.and_eq_true] at hb' hw'
          cases x with
          | tup bs =>
            cases y with
            | tup ws =>
              obtain ⟨B, rfl⟩ := all_ints hb'.1.1
              obtain ⟨T, rfl⟩ := all_ints hw'.1.1.1
              have lT : T.length = ls.length + 1 := by
                have := hw'.1.1.2
                simp only [items, List.length_map, beq_iff_eq] at this
                omega
              have bb : ∀ x ∈ B, 0 ≤ x ∧ x < ((scanI 0 ls).length : Int) - 2 := fun x hx => by
                have := (List.all_eq_true.mp hb'.1.2) (.int x) (List.mem_map.mpr ⟨x, hx, rfl⟩)
                rw [Bool.and_eq_true, decide_eq_true_eq, decide_eq_true_eq] at this
                have : 0 ≤ x ∧ x < (ls.length : Int) - 1 := this
                omega
              have lB : B.length ≤ 1000000 := by
                have := lx _ rfl
                have q : wt (.tup (B.map Val.int)) = wts (B.map Val.int) + 3 := rfl
                have := wtl (B.map Val.int)
                rw [List.length_map] at this
                omega
              refine wp_one ?_
              decreasing_trivial
              rw [bcost_ok (k := k) ec el (by omega) (by omega) (by omega) bb lB]
              decreasing_trivial
              obtain ⟨t, ht⟩ : ∃ t, T.getLast? = some t := by
                cases T with
                | nil => simp at lT
                | cons z r => exact ⟨_, List.getLast?_cons⟩
              rw [atI_last' (show (T.map Val.int).getLast? = some (.int t) by rw [List.getLast?_map, ht]; rfl)]
              decreasing_trivial
              simp only [items, getI_map, ht, Option.getD_some]
              get_elem_tactic_trivial
            | _ => cases hw'.1.1.1
          | _ => cases hb'.1.1
    · simp only [decide_eq_false h2, Bool.not_false, truth_bool, wp_ok, if_tt, if_true]
      have e2 : holdsB ls W a b w (.tup xs) = false := by
        unfold holdsB
        split
        · rename_i q
          cases q
          exact absurd rfl h2
        · rfl
      rw [e2]
      refine wp_one ?_
      decreasing_trivial
      get_elem_tactic_trivial
  | _ =>
    first
      | (cases av; done)
      | (simp only [isT, Bool.not_false, if_tt, if_true, wp_ok, truth_bool]
         refine wp_one ?_
         decreasing_trivial
         exact pr_ret rfl)
end
end M
namespace M
/-! ### words of one length -/
theorem scan_rep (L : Int) : ∀ (n j : Nat) (a : Int), j ≤ n → (scanI a (List.replicate n L)).getD j 0 = a + j * L
  | n, 0, a, _ => by cases n <;> simp [List.replicate, scanI]
  | 0, j + 1, a, h => by omega
  | n + 1, j + 1, a, h => by
    show (a :: scanI (a + L) (List.replicate n L)).getD (j + 1) 0 = _
    rw [List.getD_cons_succ, scan_rep L n j (a + L) (by omega)]
    have : ((j + 1 : Nat) : Int) * L = j * L + L := by rw [Int.natCast_add, Int.add_mul]; simp
    rw [this]; omega
theorem rep_getD (W : Int) (n j : Nat) (h : j < n) : (List.replicate n W).getD j 0 = W := by
  simp [List.getD, h]
/-- a line of words of one length, where the width holds H of them, less e -/
theorem lc_rep {L W C H e : Int} {n i j : Nat} (hij : i < j) (hj : j ≤ n) : lcost (scanI 0 (List.replicate n L)) (List.replicate (n - 1) W) C C (C + H * (L + 1) - 1 - e) i j = 1000 * max 0 (((j : Int) - i - H) * (L + 1) + e) + (if j < n then W else 0) := by
  unfold lcost
  rw [scan_rep L n j 0 hj, scan_rep L n i 0 (by omega), scanI_len, List.length_replicate]
  have e1 : (if i = 0 then C else C) = C := by split <;> rfl
  rw [e1]
  have e2 : C + (0 + (j : Int) * L) - (0 + (i : Int) * L) + j - i - 1 - (C + H * (L + 1) - 1 - e) = ((j : Int) - i - H) * (L + 1) + e := by
    rw [Int.sub_mul, Int.sub_mul, Int.mul_add, Int.mul_add, Int.mul_add]
    omega
  rw [e2]
  by_cases z : j < n
  · rw [if_pos (by omega), if_pos z, rep_getD W _ _ (by omega)]
  · rw [if_neg (by omega), if_neg z]
theorem lc0 {L W C H : Int} {n i j : Nat} (hij : i < j) (hj : j ≤ n) : lcost (scanI 0 (List.replicate n L)) (List.replicate (n - 1) W) C C (C + H * (L + 1) - 1) i j = 1000 * max 0 (((j : Int) - i - H) * (L + 1)) + (if j < n then W else 0) := by
  have := lc_rep (L := L) (W := W) (C := C) (H := H) (e := 0) hij hj
  rw [Int.sub_zero, Int.add_zero] at this
  exact this
theorem lc1 {L W C H : Int} {n i j : Nat} (hij : i < j) (hj : j ≤ n) : lcost (scanI 0 (List.replicate n L)) (List.replicate (n - 1) W) C C (C + H * (L + 1) - 1 - 1) i j = 1000 * max 0 (((j : Int) - i - H) * (L + 1) + 1) + (if j < n then W else 0) := lc_rep hij hj
section
variable {ls Wt : List Int} {a b w : Int} {x y : Val}
theorem hb_false (h : breaksB ls.length x = false) : holdsB ls Wt a b w (.tup [x, y]) = false := by rw [holdsB_pair, h]; rfl
theorem hw_false (h : worthsB (scanI 0 ls) Wt a b w y = false) : holdsB ls Wt a b w (.tup [x, y]) = false := by rw [holdsB_pair, h, Bool.and_false]; rfl
theorem hc_false (h : bco (scanI 0 ls) Wt a b w 0 (stopsOf (scanI 0 ls) ((items x).map getI)) ≠ ((items y).map getI).getLast?.getD 0) : holdsB ls Wt a b w (.tup [x, y]) = false := by
  rw [holdsB_pair, beq_false_of_ne h, Bool.and_false]
theorem h_true (h1 : breaksB ls.length x = true) (h2 : worthsB (scanI 0 ls) Wt a b w y = true) (h3 : bco (scanI 0 ls) Wt a b w 0 (stopsOf (scanI 0 ls) ((items x).map getI)) = ((items y).map getI).getLast?.getD 0) : holdsB ls Wt a b w (.tup [x, y]) = true := by
  rw [holdsB_pair, h1, h2, h3, beq_self_eq_true]; rfl
theorem rangeL_has {lo : Int} : ∀ {n : Nat} {i : Int}, lo ≤ i → i < lo + n → Val.int i ∈ rangeL lo n
  | 0, i, h, h' => by omega
  | n + 1, i, h, h' => by
    show Val.int i ∈ Val.int lo :: rangeL (lo + 1) n
    by_cases e : i = lo
    · rw [e]; exact List.mem_cons_self
    · exact List.mem_cons_of_mem _ (rangeL_has (by omega) (by omega))
theorem hw_any {S : List Int} {v : Val} (j i : Nat) (hj : 1 ≤ j) (hj2 : j < S.length) (hi : i < j) (h : ((items v).map getI).getD j 0 > ((items v).map getI).getD i 0 + lcost S Wt a b w i j) : worthsB S Wt a b w v = false := by
  have : (rangeL 1 (S.length - 1)).any (tooV S Wt a b w ((items v).map getI)) = true := by
    refine List.any_eq_true.mpr ⟨.int j, rangeL_has (by omega) (by omega), ?_⟩
    refine List.any_eq_true.mpr ⟨.int i, rangeL_has (by omega) (by show (i : Int) < 0 + ((getI (.int j)).toNat : Nat); simp [getI]; omega), ?_⟩
    show tooB S Wt a b w _ (j : Int).toNat (i : Int).toNat = true
    rw [Int.toNat_natCast, Int.toNat_natCast]
    exact decide_eq_true h
  unfold worthsB
  rw [this, Bool.not_true, Bool.and_false]
theorem hw_true {S : List Int} {v : Val} (h1 : numsB v = true) (h2 : (items v).length = S.length) (h3 : ((items v).map getI).getD 0 0 = 0) (h : ∀ j i : Nat, 1 ≤ j → j < S.length → i < j → ((items v).map getI).getD j 0 ≤ ((items v).map getI).getD i 0 + lcost S Wt a b w i j) : worthsB S Wt a b w v = true := by
  have : (rangeL 1 (S.length - 1)).any (tooV S Wt a b w ((items v).map getI)) = false := by
    rw [List.any_eq_false]
    intro u hu
    obtain ⟨j, rfl, j1, j2⟩ := rangeL_mem hu
    rw [Bool.not_eq_true]
    refine List.any_eq_false.mpr fun u hu => ?_
    obtain ⟨i, rfl, i1, i2⟩ := rangeL_mem hu
    have i2 : i < 0 + (j.toNat : Int) := i2
    rw [Bool.not_eq_true]
    refine decide_eq_false ?_
    have := h j.toNat i.toNat (by omega) (by omega) (by omega)
    show ¬ (_ > _)
    exact Int.not_lt.mpr this
  unfold worthsB
  rw [h1, h2, h3, this, beq_self_eq_true]
  rfl
end
end M
namespace M
open PySem
local macro_rules | `(tactic| decreasing_trivial) => `(tactic| try simp only [wp_bind, wp_ok, bind_ok, e_lit, e_var, e_prim, e_and, e_or, e_not, e_ite, e_chain, e_call, e_comp, e_frz, e_meth, es_nil, es_cons, c_nil, c_cons, i_val, i_range, i_enum, i_zip, s_asg, s_par, s_asg2, setsTg, s_aug, s_expr, s_ite, s_wh, s_for, s_ret, s_brk, t_ev, st_nil, st_cons, st_name, st_tup, st_ix,
  List.getElem?_cons_zero, List.getElem?_cons_succ, List.set_cons_zero, List.set_cons_succ, List.map_cons, List.map_nil, List.cons_append, List.nil_append, List.append_nil, List.replicate_succ, List.replicate_zero, selV, Option.map_some,
  p_add_int, p_add_str, p_add_tup, p_add_list, p_sub, p_neg, p_eq_int, p_ne_int, p_eq_str, p_ne_str, p_lt, p_gt, p_le, p_ge, p_isNone, p_isNotNone, p_isTrue, p_isFalse, p_isNotTrue, p_isNotFalse, p_mem_sign, p_notmem_sign, p_ix_str, p_ix_list, p_ix_tup, optV_some, p_sl11, p_sl10, p_sl01, p_sl00, sl_str, sl_list, sl_tup, p_rev_str, p_rev_list, p_rev_tup, p_tup, p_list, p_len_str, p_len_list, p_len_tup, p_min2, p_max2, p_int_bool, p_int_int, p_bool, p_str_str, p_ord, p_listOf_list, p_listOf_tup, p_tupOf_list, p_tupOf_tup, truth_bool, truth_int, truth_str, truth_list, truth_tup, if_tt, if_ff, if_true, if_false, it_list, it_tup, it_str,
  okList_ok, okTup_ok, SL_val, List.length_cons, List.length_nil, Nat.reduceAdd, Nat.reduceLeDiff, Nat.zero_add, killL, List.foldl_cons, List.foldl_nil, setTg])
local macro_rules | `(tactic| get_elem_tactic_trivial) => `(tactic| exact pr_ret rfl)
def b0_2 : List MS := [.ite (.prim .isNotFalse [(.call 6 [(.var 10), (.var 11), (.var 13)] [(.var 6), (.var 6), (.var 7)] [.inl 0, .inl 1, .inl 2, .inl 3, .inl 4, .inl 5])]) [.ret (.lit (.bool false))] []]
def b0_1 : List MS := [.asg [.tup [3, 4, 5, 6, 7, 8, 9]] (.call 2 [(.var 1)] [] [.inl 0]), .par [10, 11] [(.prim .mul [(.prim .tup [(.var 4)]), (.var 3)]), (.prim .mul [(.prim .tup [(.var 5)]), (.prim .sub [(.var 3), (.lit (.int 1))])])], .asg [.name 12] (.prim .tup [(.var 8), (.var 9)]), .ite (.prim .isNotTrue [(.call 6 [(.var 10), (.var 11), (.var 12)] [(.var 6), (.var 6), (.var 7)] [.inl 0, .inl 1, .inl 2, .inl 3, .inl 4, .inl 5])]) [.ret (.lit (.bool false))] [], .for (.name 13) (.val (.call 4 [(.var 3), (.var 8), (.var 9)] [] [.inl 0, .inl 1, .inl 2])) b0_2, .ite (.prim .isNotFalse [(.call 6 [(.var 10), (.var 11), (.var 12)] [(.var 6), (.var 6), (.prim .sub [(.var 7), (.lit (.int 1))])] [.inl 0, .inl 1, .inl 2, .inl 3, .inl 4, .inl 5])]) [.ret (.lit (.bool false))] []]
/-- law _law_script _law_deck_here _law_turn _law_many _law_length _law_weight _law_column _law_wide _law_breaks _law_row _law_lengths _law_weights _law_right _law_thing -/
def b0 : List MS := [.asg [.name 1] (.call 1 [(.var 0)] [] [.inl 0]), .for (.name 2) (.range [(.lit (.int 3))]) b0_1, .ret (.lit (.bool true))]
/-- _law_deck _law_script _law_cell -/
def b1 : List MS := bDeck
/-- _law_world _law_deck_here _law_length _law_held _law_lines _law_weight _law_column _law_many _law_breaks _law_worths _law_wide _law_k -/
def b2 : List MS := [.asg [.tup [1, 2]] (.prim .tup [(.prim .add [(.lit (.int 1)), (.call 3 [(.var 0), (.lit (.int 20))] [] [.inl 0, .inl 1])]), (.prim .add [(.lit (.int 2)), (.call 3 [(.var 0), (.lit (.int 2))] [] [.inl 0, .inl 1])])]), .asg [.tup [3, 4]] (.prim .tup [(.prim .add [(.lit (.int 3)), (.call 3 [(.var 0), (.lit (.int 3))] [] [.inl 0, .inl 1])]), (.prim .add [(.lit (.int 1)), (.call 3 [(.var 0), (.lit (.int 50))] [] [.inl 0, .inl 1])])]), .asg [.name 5] (.call 3 [(.var 0), (.lit (.int 20))] [] [.inl 0, .inl 1]), .asg [.name 6] (.prim .mul [(.var 2), (.var 3)]), .asg [.name 7] (.prim .tupOf [(.comp false [10] (.name 10) (.range [(.lit (.int 1)), (.var 3)]) [] (.prim .sub [(.prim .mul [(.var 2), (.var 10)]), (.lit (.int 1))]))]), .asg [.name 8] (.comp false [10] (.name 10) (.range [(.lit (.int 1)), (.var 6)]) [] (.prim .mul [(.var 4), (.prim .add [(.prim .fdiv [(.prim .sub [(.var 10), (.lit (.int 1))]), (.var 2)]), (.lit (.int 1))])])), .asg [.name 9] (.prim .sub [(.prim .add [(.var 5), (.prim .mul [(.var 2), (.prim .add [(.var 1), (.lit (.int 1))])])]), (.lit (.int 1))]), .ret (.prim .tup [(.var 6), (.var 1), (.var 4), (.var 5), (.var 9), (.var 7), (.prim .add [(.prim .add [(.prim .tup [(.lit (.int 0))]), (.prim .tupOf [(.var 8)])]), (.prim .tup [(.prim .mul [(.var 4), (.prim .sub [(.var 3), (.lit (.int 1))])])])])])]
/-- _law_draw _law_deck_here _law_most _law_cell _law_number -/
def b3 : List MS := bDraw
/-- _law_wrong _law_many _law_breaks _law_worths _law_found _law_last _law_worth -/
def b4 : List MS := [.asg [.name 3] (.prim (.list true) [(.prim .tup [(.prim (.rev false) [(.var 1)]), (.var 2)]), (.prim .tup [(.prim .add [(.prim (.sl false true) [(.var 1), (.lit (.int 1))]), (.var 1)]), (.var 2)]), (.prim .tup [(.prim (.sl true false) [(.var 1), (.lit (.int 1))]), (.var 2)]), (.prim .tup [(.prim (.sl false true) [(.var 1), (.prim .neg [(.lit (.int 1))])]), (.var 2)])]), .asg [.name 3] (.prim .addm [(.var 3), (.prim (.list false) [(.prim .tup [(.prim .add [(.prim .tup [(.lit (.int 0))]), (.var 1)]), (.var 2)]), (.prim .tup [(.prim .add [(.var 1), (.prim .tup [(.prim .sub [(.var 0), (.lit (.int 1))])])]), (.var 2)]), (.prim .tup [(.prim .add [(.prim .tup [(.prim .neg [(.lit (.int 1))])]), (.var 1)]), (.var 2)])])]), .asg [.name 3] (.prim .addm [(.var 3), (.prim (.list false) [(.prim .tup [(.prim .add [(.var 1), (.prim .tup [(.var 0)])]), (.var 2)]), (.prim .tup [(.prim (.listOf false) [(.var 1)]), (.var 2)]), (.prim .tup [(.var 1), (.prim (.listOf false) [(.var 2)])])])]), .asg [.name 3] (.prim .addm [(.var 3), (.prim (.list false) [(.prim .tup [(.var 1), (.prim (.sl true false) [(.var 2), (.lit (.int 1))])]), (.prim .tup [(.var 1), (.prim (.sl false true) [(.var 2), (.prim .neg [(.lit (.int 1))])])]), (.prim .tup [(.var 1), (.prim .add [(.var 2), (.prim (.sl true false) [(.var 2), (.prim .neg [(.lit (.int 1))])])])]), (.prim .tup [(.var 1), (.prim .tup [])])])]), .asg [.name 3] (.prim .addm [(.var 3), (.prim (.list false) [(.prim .tup [(.var 1), (.call 5 [(.var 2), (.lit (.int 0)), (.lit (.int 1))] [] [.inl 0, .inl 1, .inl 2])]), (.prim .tup [(.var 1), (.call 5 [(.var 2), (.lit (.int 0)), (.lit (.bool false))] [] [.inl 0, .inl 1, .inl 2])]), (.prim .tup [(.var 1)])])]), .asg [.name 4] (.prim .ix [(.var 2), (.var 0)]), .asg [.name 3] (.prim .addm [(.var 3), (.prim (.list false) [(.prim .tup [(.var 1), (.call 5 [(.var 2), (.var 0), (.prim .add [(.var 4), (.lit (.int 1))])] [] [.inl 0, .inl 1, .inl 2])]), (.prim .tup [(.var 1), (.call 5 [(.var 2), (.var 0), (.prim .sub [(.var 4), (.lit (.int 1))])] [] [.inl 0, .inl 1, .inl 2])])])]), .asg [.name 3] (.prim .addm [(.var 3), (.prim (.list false) [(.prim .tup [(.var 1), (.var 2), (.var 2)]), (.prim (.list false) [(.var 1), (.var 2)]), (.prim .tup [(.var 2), (.var 1)])])]), .expr (.meth .append (.var 3) [(.prim .tup [(.var 1), (.prim .tupOf [(.comp false [5] (.name 5) (.val (.var 2)) [] (.prim .str [(.var 5)]))])])]), .ret (.prim .add [(.var 3), (.prim (.list false) [(.prim .tup [(.var 1), (.call 5 [(.var 2), (.lit (.int 1)), (.prim .add [(.prim .ix [(.var 2), (.lit (.int 1))]), (.lit (.int 1))])] [] [.inl 0, .inl 1, .inl 2])]), (.prim .tup [(.call 5 [(.var 1), (.lit (.int 0)), (.lit (.bool true))] [] [.inl 0, .inl 1, .inl 2]), (.var 2)])])])]
/-- _law_put _law_row _law_at _law_part -/
def b5 : List MS := [.ret (.prim .add [(.prim .add [(.prim (.sl false true) [(.var 0), (.var 1)]), (.prim .tup [(.var 2)])]), (.prim (.sl true false) [(.var 0), (.prim .add [(.var 1), (.lit (.int 1))])])])]
/-- least_holds lengths weights thing first further width sums frame breaks worths -/
def b6 : List MS := B_least_holds 10 12 8 7
/-- sums_of lengths found length -/
def b7 : List MS := B_sums_of
/-- breaks_cost sums weights frame breaks cost start stop number -/
def b8 : List MS := B_breaks_cost 9
/-- line_cost sums weights frame start stop first further wide column signs cost -/
def b9 : List MS := B_line_cost
/-- are_breaks many thing one other -/
def b10 : List MS := B_are_breaks 11
/-- are_numbers thing one -/
def b11 : List MS := B_are_numbers
/-- are_worths sums weights frame thing stop start -/
def b12 : List MS := B_are_worths 11 9
def G : Tab := fun i => match i with
  | 0 => some ⟨1, 14, false, b0⟩
  | 1 => some ⟨1, 2, true, b1⟩
  | 2 => some ⟨1, 11, false, b2⟩
  | 3 => some ⟨2, 4, false, b3⟩
  | 4 => some ⟨3, 6, false, b4⟩
  | 5 => some ⟨3, 3, false, b5⟩
  | 6 => some ⟨6, 10, false, b6⟩
  | 7 => some ⟨1, 3, false, b7⟩
  | 8 => some ⟨4, 8, false, b8⟩
  | 9 => some ⟨5, 11, false, b9⟩
  | 10 => some ⟨2, 4, false, b10⟩
  | 11 => some ⟨1, 2, false, b11⟩
  | 12 => some ⟨4, 6, false, b12⟩
  | _ => none
theorem eDraw : G 3 = some fDraw := rfl
def rngI (lo : Int) : Nat → List Int
  | 0 => []
  | n + 1 => lo :: rngI (lo + 1) n
theorem rng_map : ∀ (lo : Int) (n : Nat), rangeL lo n = (rngI lo n).map .int
  | _, 0 => rfl
  | lo, n + 1 => by show Val.int lo :: rangeL (lo + 1) n = Val.int lo :: _; rw [rng_map]
theorem rng_len : ∀ (lo : Int) (n : Nat), (rngI lo n).length = n
  | _, 0 => rfl
  | lo, n + 1 => by show (rngI (lo + 1) n).length + 1 = n + 1; rw [rng_len]
def brks (H N : Int) : List Int := (rngI 1 (N - 1).toNat).map fun k => H * k - 1
def rowW (H N W : Int) : List Int := [0] ++ ((rngI 1 (H * N - 1).toNat).map fun k => W * ((k - 1) / H + 1)) ++ [W * (N - 1)]
structure Wld (L H N W C : Int) : Prop where
  l1 : 1 ≤ L
  l2 : L ≤ 20
  h : H = 2 ∨ H = 3
  n1 : 3 ≤ N
  n2 : N ≤ 5
  w1 : 1 ≤ W
  w2 : W ≤ 50
  c1 : 0 ≤ C
  c2 : C ≤ 19
def worldV (L H N W C : Int) : Val := .tup [.int (H * N), .int L, .int W, .int C, .int (C + H * (L + 1) - 1), .tup ((brks H N).map .int), .tup ((rowW H N W).map .int)]
theorem hn_bound {L H N W C : Int} (w : Wld L H N W C) : 6 ≤ H * N ∧ H * N ≤ 15 := by
  obtain ⟨_, _, h, n1, n2, _, _, _, _⟩ := w
  rcases h with rfl | rfl <;> omega
theorem small_of {i : Int} (h : -1000000 ≤ i) (h' : i ≤ 1000000) : small i = true := by
  unfold small
  rw [decide_eq_true_eq]
  omega
theorem sm1 {i j : Int} (h : -1000000 ≤ i) (h' : i ≤ 1000000) : (small i || small j) = true := by rw [small_of h h']; rfl
theorem world_ok {k : Nat} {rest h : Heap} (hd : Dk rest h) : Wp (callN G (k + 2) 2 [.ref 1] h) fun v h' => (∃ L H N W C, Wld L H N W C ∧ v = worldV L H N W C) ∧ Dk rest h' := by
  rw [call_succ rfl]
  refine run_draw hd rfl rfl (by
    rintro n v ⟨L, H, N, W, C, w, rfl⟩
    refine flat_lt ?_
    show (true && (true && (true && (true && (true && (Val.flats _ && (Val.flats _ && true))))))) = true
    rw [flats_ints, flats_ints]
    rfl) ?_
  show Wp (evB _ b2 [some (.ref 1), none, none, none, none, none, none, none, none, none, none] h) _
  refine wp_seq ?_
  decreasing_trivial
  refine (draw_at (k := k) eDraw (by omega) (by omega) hd).mono fun v h1 ⟨⟨r1, e, a1, b1⟩, hd1⟩ => ?_
  subst e
  decreasing_trivial
  refine (draw_at (k := k) eDraw (by omega) (by omega) hd1).mono fun v h2 ⟨⟨r2, e, a2, b2⟩, hd2⟩ => ?_
  subst e
  decreasing_trivial
  refine wp_seq ?_
  decreasing_trivial
  refine (draw_at (k := k) eDraw (by omega) (by omega) hd2).mono fun v h3 ⟨⟨r3, e, a3, b3⟩, hd3⟩ => ?_
  subst e
  decreasing_trivial
  refine (draw_at (k := k) eDraw (by omega) (by omega) hd3).mono fun v h4 ⟨⟨r4, e, a4, b4⟩, hd4⟩ => ?_
  subst e
  decreasing_trivial
  refine wp_seq ?_
  decreasing_trivial
  refine (draw_at (k := k) eDraw (by omega) (by omega) hd4).mono fun v h5 ⟨⟨C, e, a5, b5⟩, hd5⟩ => ?_
  subst e
  decreasing_trivial
  have w : Wld (1 + r1) (2 + r2) (3 + r3) (1 + r4) C := ⟨by omega, by omega, by omega, by omega, by omega, by omega, by omega, by omega, by omega⟩
  generalize 1 + r1 = L at w
  generalize 2 + r2 = H at w
  generalize 3 + r3 = N at w
  generalize 1 + r4 = W at w
  clear a1 b1 a2 b2 a3 b3 a4 b4 a5 b5
  have hn := hn_bound w
  have hh := w.h
  have hn1 := w.n1
  have hn2 := w.n2
  have hw1 := w.w1
  have hw2 := w.w2
  have hl1 := w.l1
  have hl2 := w.l2
  have SLv : SL = 16777216 := rfl
  have RLv : RL = 1000000000 := rfl
  refine wp_seq ?_
  decreasing_trivial
  rw [p_mul_int _ _ _ (sm1 (by omega) (by omega))]
  decreasing_trivial
  refine wp_seq ?_
  decreasing_trivial
  rw [range_two (by decide) (by decide) (by omega) (by omega), rng_map]
  decreasing_trivial
  refine Wp.of_eq (comp_int_map (fun c => .int (H * c - 1)) fun c _ => ?_) ?_
  · decreasing_trivial
    rw [p_mul_int _ _ _ (sm1 (by omega) (by omega))]
    decreasing_trivial
  rw [okList_ok _ _ (by rw [List.length_map, rng_len]; omega)]
  decreasing_trivial
  rw [okTup_ok _ _ (by rw [List.length_map, rng_len]; omega)]
  decreasing_trivial
  refine wp_seq ?_
  decreasing_trivial
  rw [range_two (by decide) (by decide) (by omega) (by omega), rng_map]
  decreasing_trivial
  refine Wp.of_eq (comp_int_map (fun c => .int (W * ((c - 1) / H + 1))) fun c _ => ?_) ?_
  · decreasing_trivial
    rw [p_fdiv _ _ _ (by omega) (by omega)]
    decreasing_trivial
    rw [p_mul_int _ _ _ (sm1 (by omega) (by omega))]
    decreasing_trivial
  rw [okList_ok _ _ (by rw [List.length_map, rng_len]; omega)]
  decreasing_trivial
  refine wp_seq ?_
  decreasing_trivial
  rw [p_mul_int _ _ _ (sm1 (by omega) (by omega))]
  decreasing_trivial
  refine wp_one ?_
  decreasing_trivial
  rw [okTup_ok _ _ (by rw [List.length_map, rng_len]; omega)]
  decreasing_trivial
  rw [okTup_ok _ _ (by rw [List.length_cons, List.length_map, rng_len]; omega)]
  decreasing_trivial
  rw [p_mul_int _ _ _ (sm1 (by omega) (by omega))]
  decreasing_trivial
  rw [okTup_ok _ _ (by rw [List.length_cons, List.length_append, List.length_map, rng_len, List.length_cons, List.length_nil]; omega)]
  decreasing_trivial
  refine pd_ret ⟨L, H, N, W, C, w, ?_⟩ hd5
  unfold worldV brks rowW
  simp only [List.map_map, List.map_append, List.map_cons, List.map_nil, List.cons_append, List.nil_append]
  rfl
/-! ### the wrong ones -/
def putV (row : List Val) (at_ : Int) (part : Val) : List Val := (cut row none (some at_) ++ [part]) ++ cut row (some (at_ + 1)) none
theorem okTup_app {s t : List Val} {h : Heap} (hs : s.length ≤ 1000000) (ht : t.length ≤ 1000000) : okTup (s ++ t) h = .ok (.tup (s ++ t)) h := okTup_ok _ _ (by
  rw [List.length_append]
  have : SL = 16777216 := rfl
  omega)
theorem okTup_app3 {s t u : List Val} {h : Heap} (hs : s.length ≤ 1000000) (ht : t.length ≤ 1000000) (hu : u.length ≤ 1000000) : okTup ((s ++ t) ++ u) h = .ok (.tup ((s ++ t) ++ u)) h := okTup_ok _ _ (by
  rw [List.length_append, List.length_append]
  have : SL = 16777216 := rfl
  omega)
theorem put_ok {k : Nat} {row : List Val} {i : Int} {p : Val} {h : Heap} (hl : row.length ≤ 1000000) (hr : Val.flats row = true) (hp : p.flat = true) : callN G (k + 1) 5 [.tup row, .int i, p] h = .ok (.tup (putV row i p)) h := by
  have cl : ∀ a b, (cut row a b).length ≤ 1000000 := fun a b => Nat.le_trans (cut_lenL row a b) hl
  have fapp : ∀ {a b : List Val}, Val.flats a = true → Val.flats b = true → Val.flats (a ++ b) = true := fun {a b} ha hb => by
    induction a with
    | nil => exact hb
    | cons x r ih =>
      have h' := Bool.and_eq_true_iff.mp (show (x.flat && Val.flats r) = true from ha)
      exact Bool.and_eq_true_iff.mpr ⟨h'.1, ih h'.2⟩
  have fmem : ∀ {a : List Val}, Val.flats a = true → ∀ x ∈ a, x.flat = true := fun {a} ha => by
    induction a with
    | nil => intro x hx; cases hx
    | cons y r ih =>
      have h' := Bool.and_eq_true_iff.mp (show (y.flat && Val.flats r) = true from ha)
      intro x hx
      rcases List.mem_cons.mp hx with rfl | hx
      · exact h'.1
      · exact ih h'.2 x hx
  have fof : ∀ {a : List Val}, (∀ x ∈ a, x.flat = true) → Val.flats a = true := fun {a} ha => by
    induction a with
    | nil => rfl
    | cons y r ih => exact Bool.and_eq_true_iff.mpr ⟨ha y List.mem_cons_self, ih fun x hx => ha x (List.mem_cons_of_mem _ hx)⟩
  have fc : ∀ a b, Val.flats (cut row a b) = true := fun a b => fof fun x hx => fmem hr x (cut_mem hx)
  rw [call_succ rfl]
  refine run_pure rfl rfl (flat_lt (fapp (fapp (fc _ _) (show (p.flat && true) = true by rw [hp]; rfl)) (fc _ _))) ?_
  show Wp (evB _ b5 [some (.tup row), some (.int i), some p] h) _
  refine wp_one ?_
  decreasing_trivial
  rw [okTup_app (cl _ _) (by simp)]
  decreasing_trivial
  rw [okTup_app3 (cl _ _) (by simp) (cl _ _)]
  decreasing_trivial
  get_elem_tactic_trivial
def tInt (l : List Int) : Val := .tup (l.map .int)
def prV (x y : Val) : Val := .tup [x, y]
def strV (i : Int) : Val := .str ((toString i : String) : Str).cps.toList
def w0 (b r : List Val) : List Val := [prV (.tup b.reverse) (.tup r), prV (.tup (cut b none (some 1) ++ b)) (.tup r), prV (.tup (cut b (some 1) none)) (.tup r), prV (.tup (cut b none (some (-1)))) (.tup r)]
def w1 (many : Int) (b r : List Val) : List Val := [prV (.tup ([.int 0] ++ b)) (.tup r), prV (.tup (b ++ [.int (many - 1)])) (.tup r), prV (.tup ([.int (-1)] ++ b)) (.tup r)]
def w2 (many : Int) (b r : List Val) : List Val := [prV (.tup (b ++ [.int many])) (.tup r), prV (.list b) (.tup r), prV (.tup b) (.list r)]
def w3 (b r : List Val) : List Val := [prV (.tup b) (.tup (cut r (some 1) none)), prV (.tup b) (.tup (cut r none (some (-1)))), prV (.tup b) (.tup (r ++ cut r (some (-1)) none)), prV (.tup b) (.tup [])]
def w4 (b r : List Val) : List Val := [prV (.tup b) (.tup (putV r 0 (.int 1))), prV (.tup b) (.tup (putV r 0 (.bool false))), .tup [.tup b]]
def w5 (many : Int) (b r : List Val) (last : Int) : List Val := [prV (.tup b) (.tup (putV r many (.int (last + 1)))), prV (.tup b) (.tup (putV r many (.int (last - 1))))]
def w6 (b r : List Val) : List Val := [.tup [.tup b, .tup r, .tup r], .list [.tup b, .tup r], prV (.tup r) (.tup b)]
def w7 (b : List Val) (R : List Int) : List Val := [prV (.tup b) (.tup (R.map strV))]
def w8 (b r : List Val) (one : Int) : List Val := [prV (.tup b) (.tup (putV r 1 (.int (one + 1)))), prV (.tup (putV b 0 (.bool true))) (.tup r)]
def wrongV (many : Int) (B R : List Int) : List Val :=
  w0 (B.map .int) (R.map .int) ++ w1 many (B.map .int) (R.map .int) ++ w2 many (B.map .int) (R.map .int) ++ w3 (B.map .int) (R.map .int) ++ w4 (B.map .int) (R.map .int) ++ w5 many (B.map .int) (R.map .int) (R.getD many.toNat 0) ++ w6 (B.map .int) (R.map .int) ++ w7 (B.map .int) R ++ w8 (B.map .int) (R.map .int) (R.getD 1 0)
theorem addm_ref {n : Nat} {xs ys : List Val} {H : Heap} (e : H[n]? = some (.list xs)) (l : xs.length + ys.length ≤ 1000) : evP .addm [.ref n, .list ys] H = .ok (.ref H.length) (H ++ [.list (xs ++ ys)]) := by
  have d : dr H (.ref n) = some (.list xs) := by
    show (match H[n]? with
      | some (.list xs) => some (Val.list xs)
      | some (.dict ks vs) => some (.dict ks vs)
      | _ => none) = _
    rw [e]
  show (match dr H (.ref n), dr H (.list ys) with
    | some (.list xs), some (.list ys) => okList true (xs ++ ys) H
    | _, _ => .stuck) = _
  rw [d]
  exact okList_mut _ _ (by
    rw [List.length_append]
    have : SL = 16777216 := rfl
    omega)
theorem step_addm {cl : CallFn} {e : ME} {r : List MS} {ls : Loc} {h H : Heap} {n : Nat} {xs ys : List Val} {Q : Flow → Heap → Prop} (h3 : ls[3]? = some (some (.ref n))) (he : H[n]? = some (.list xs)) (t : ∃ t, H = h ++ t) (ev : evE cl e ls H = .ok (.list ys) H) (l : xs.length + ys.length ≤ 1000)
    (q : ∀ H' n', H'[n']? = some (.list (xs ++ ys)) → (∃ t, H' = h ++ t) → h.length ≤ n' → Wp (evB cl r (ls.set 3 (some (.ref n'))) H') Q) : Wp (evB cl (.asg [.name 3] (.prim .addm [.var 3, e]) :: r) ls H) Q := by
  refine wp_seq ?_
  have ev3 : evE cl (.var 3) ls H = .ok (.ref n) H := by rw [e_var, h3]
  simp only [s_asg, e_prim, es_cons, es_nil, ev3, ev, bind_ok, wp_bind, wp_ok, addm_ref he l, st_cons, st_nil, st_name]
  obtain ⟨t, rfl⟩ := t
  exact q _ _ (by simp) ⟨t ++ [.list (xs ++ ys)], by simp⟩ (by simp)
theorem wts_le {c : Nat} : ∀ {xs : List Val}, (∀ x ∈ xs, wt x ≤ c) → wts xs ≤ xs.length * (c + 2)
  | [], _ => Nat.zero_le _
  | x :: r, h => by
    have h1 := h x List.mem_cons_self
    have h2 := wts_le (c := c) (xs := r) fun y hy => h y (List.mem_cons_of_mem _ hy)
    show wt x + 2 + wts r ≤ (r.length + 1) * (c + 2)
    rw [Nat.add_mul, Nat.one_mul]
    omega
structure Gd (c : Nat) (v : Val) : Prop where
  a : okA v = true
  f : v.flat = true
  l : wt v ≤ c
theorem Gd.mono {c d : Nat} {v : Val} (g : Gd c v) (h : c ≤ d) : Gd d v := ⟨g.a, g.f, Nat.le_trans g.l h⟩
theorem okAs_of : ∀ {xs : List Val}, (∀ x ∈ xs, okA x = true) → okAs xs = true
  | [], _ => rfl
  | x :: r, h => Bool.and_eq_true_iff.mpr ⟨h x List.mem_cons_self, okAs_of fun y hy => h y (List.mem_cons_of_mem _ hy)⟩
theorem flats_of : ∀ {xs : List Val}, (∀ x ∈ xs, x.flat = true) → Val.flats xs = true
  | [], _ => rfl
  | x :: r, h => Bool.and_eq_true_iff.mpr ⟨h x List.mem_cons_self, flats_of fun y hy => h y (List.mem_cons_of_mem _ hy)⟩
theorem gd_tup {c : Nat} {xs : List Val} (n : Nat) (h : ∀ x ∈ xs, Gd c x) (l : xs.length ≤ n) : Gd (n * (c + 2) + 3) (.tup xs) := by
  refine ⟨okAs_of fun x hx => (h x hx).a, flats_of fun x hx => (h x hx).f, ?_⟩
  have := wts_le (c := c) fun x hx => (h x hx).l
  have := Nat.mul_le_mul_right (c + 2) l
  show wts xs + 3 ≤ _
  omega
theorem gd_list {c : Nat} {xs : List Val} (n : Nat) (h : ∀ x ∈ xs, Gd c x) (l : xs.length ≤ n) : Gd (n * (c + 2) + 3) (.list xs) := by
  refine ⟨okAs_of fun x hx => (h x hx).a, flats_of fun x hx => (h x hx).f, ?_⟩
  have := wts_le (c := c) fun x hx => (h x hx).l
  have := Nat.mul_le_mul_right (c + 2) l
  show wts xs + 2 ≤ _
  omega
theorem gd_int {i : Int} (h : i.natAbs < 2 ^ 1000) : Gd 1001 (.int i) := ⟨decide_eq_true h, rfl, Nat.le_refl _⟩
theorem gd_bool {b : Bool} : Gd 1001 (.bool b) := ⟨rfl, rfl, by show 5 ≤ 1001; decide⟩
theorem gd_str {i : Int} (h : i.natAbs < 2 ^ 1000) : Gd 10012 (strV i) := by
  have lo := int_low h
  have l : ((toString i : String) : Str).cps.toList.length ≤ 1001 := by simpa [Str.length] using lo.1
  exact ⟨ascL_iff.mpr lo.2, rfl, by show 10 * _ + 2 ≤ 10012; omega⟩
theorem gd_pr {c d : Nat} {x y : Val} (h : Gd c x) (k : Gd d y) : Gd (c + d + 7) (prV x y) := by
  refine ⟨?_, ?_, ?_⟩
  · show (okA x && (okA y && true)) = true; rw [h.a, k.a]; rfl
  · show (x.flat && (y.flat && true)) = true; rw [h.f, k.f]; rfl
  · have := h.l
    have := k.l
    show wt x + 2 + (wt y + 2 + 0) + 3 ≤ _
    omega
theorem put_mem {r : List Val} {i : Int} {p x : Val} (h : x ∈ putV r i p) : x ∈ r ∨ x = p := by
  unfold putV at h
  rcases List.mem_append.mp h with h | h
  · rcases List.mem_append.mp h with h | h
    · exact .inl (cut_mem h)
    · exact .inr (by simpa using h)
  · exact .inl (cut_mem h)
theorem put_len {r : List Val} {i : Int} {p : Val} : (putV r i p).length ≤ 2 * r.length + 1 := by
  unfold putV
  have := cut_lenL r none (some i)
  have := cut_lenL r (some (i + 1)) none
  simp only [List.length_append, List.length_cons, List.length_nil]
  omega
/-- all of them are data of no great size -/
theorem wrong_gd {many : Int} {B R : List Int} (hB : B.length ≤ 10) (hR : R.length ≤ 20) (mm : many.natAbs ≤ 1000) (bB : ∀ x ∈ B, x.natAbs ≤ 100000) (bR : ∀ x ∈ R, x.natAbs ≤ 100000) : ∀ x ∈ wrongV many B R, Gd 1000000 x := by
  have big : (200000 : Nat) < 2 ^ 1000 := by decide +kernel
  have gi : ∀ i : Int, i.natAbs ≤ 200000 → Gd 1001 (.int i) := fun i h => gd_int (Nat.lt_of_le_of_lt h big)
  have gb : ∀ x ∈ B.map Val.int, Gd 1001 x := fun x hx => by
    obtain ⟨i, hi, rfl⟩ := List.mem_map.mp hx
    exact gi i (by have := bB i hi; omega)
  have gr : ∀ x ∈ R.map Val.int, Gd 1001 x := fun x hx => by
    obtain ⟨i, hi, rfl⟩ := List.mem_map.mp hx
    exact gi i (by have := bR i hi; omega)
  have lb : (B.map Val.int).length ≤ 10 := by rw [List.length_map]; exact hB
  have lr : (R.map Val.int).length ≤ 20 := by rw [List.length_map]; exact hR
  have gD : ∀ n : Nat, (R.getD n 0).natAbs ≤ 100000 := fun n => by
    simp only [List.getD_eq_getElem?_getD]
    cases e : R[n]? with
    | none => show (0 : Int).natAbs ≤ 100000; decide
    | some z => exact bR z (List.mem_of_getElem? e)
  have TB : Gd 10033 (.tup (B.map .int)) := gd_tup 10 gb lb
  have TR : Gd 20063 (.tup (R.map .int)) := gd_tup 20 gr lr
  have two : ∀ {x y : Val}, Gd 60200 x → Gd 60200 y → Gd 1000000 (prV x y) := fun h k => (gd_pr h k).mono (by decide)
  have B2 : ∀ {xs : List Val}, (∀ x ∈ xs, Gd 1001 x) → xs.length ≤ 60 → Gd 60200 (.tup xs) := fun h l => (gd_tup 60 h l).mono (by decide)
  have TB' := TB.mono (show 10033 ≤ 60200 by decide)
  have TR' := TR.mono (show 20063 ≤ 60200 by decide)
  have cb : ∀ a c, (∀ x ∈ cut (B.map Val.int) a c, Gd 1001 x) ∧ (cut (B.map Val.int) a c).length ≤ 10 := fun a c => ⟨fun x hx => gb x (cut_mem hx), Nat.le_trans (cut_lenL _ _ _) lb⟩
  have cr : ∀ a c, (∀ x ∈ cut (R.map Val.int) a c, Gd 1001 x) ∧ (cut (R.map Val.int) a c).length ≤ 20 := fun a c => ⟨fun x hx => gr x (cut_mem hx), Nat.le_trans (cut_lenL _ _ _) lr⟩
  have app : ∀ {a c : List Val}, (∀ x ∈ a, Gd 1001 x) → (∀ x ∈ c, Gd 1001 x) → ∀ x ∈ a ++ c, Gd 1001 x := fun ha hc x hx => (List.mem_append.mp hx).elim (ha x) (hc x)
  have one : ∀ {v : Val}, Gd 1001 v → ∀ x ∈ [v], Gd 1001 x := fun h x hx => by rw [List.mem_singleton.mp hx]; exact h
  have pr : ∀ (i : Int) {p : Val}, Gd 1001 p → Gd 60200 (.tup (putV (R.map .int) i p)) := fun i p g => B2 (fun x hx => (put_mem hx).elim (gr x) fun e => by rw [e]; exact g) (Nat.le_trans put_len (by omega))
  have pb : ∀ (i : Int) {p : Val}, Gd 1001 p → Gd 60200 (.tup (putV (B.map .int) i p)) := fun i p g => B2 (fun x hx => (put_mem hx).elim (gb x) fun e => by rw [e]; exact g) (Nat.le_trans put_len (by omega))
  intro x hx
  unfold wrongV at hx
  simp only [List.mem_append] at hx
  rcases hx with (((((((hx | hx) | hx) | hx) | hx) | hx) | hx) | hx) | hx
  · simp only [w0, List.mem_cons, List.mem_nil_iff, or_false] at hx
    rcases hx with rfl | rfl | rfl | rfl
    · exact two (B2 (fun x hx => gb x (List.mem_reverse.mp hx)) (by rw [List.length_reverse]; omega)) TR'
    · exact two (B2 (app (cb _ _).1 gb) (by rw [List.length_append]; have := (cb none (some 1)).2; omega)) TR'
    · exact two (B2 (cb _ _).1 (Nat.le_trans (cb _ _).2 (by decide))) TR'
    · exact two (B2 (cb _ _).1 (Nat.le_trans (cb _ _).2 (by decide))) TR'
  · simp only [w1, List.mem_cons, List.mem_nil_iff, or_false] at hx
    rcases hx with rfl | rfl | rfl
    · exact two (B2 (app (one (gi _ (by decide))) gb) (by simp only [List.length_append, List.length_cons, List.length_nil]; omega)) TR'
    · exact two (B2 (app gb (one (gi _ (by omega)))) (by simp only [List.length_append, List.length_cons, List.length_nil]; omega)) TR'
    · exact two (B2 (app (one (gi _ (by decide))) gb) (by simp only [List.length_append, List.length_cons, List.length_nil]; omega)) TR'
  · simp only [w2, List.mem_cons, List.mem_nil_iff, or_false] at hx
    rcases hx with rfl | rfl | rfl
    · exact two (B2 (app gb (one (gi _ (by omega)))) (by simp only [List.length_append, List.length_cons, List.length_nil]; omega)) TR'
    · exact two ((gd_list 10 gb lb).mono (by decide)) TR'
    · exact two TB' ((gd_list 20 gr lr).mono (by decide))
  · simp only [w3, List.mem_cons, List.mem_nil_iff, or_false] at hx
    rcases hx with rfl | rfl | rfl | rfl
    · exact two TB' (B2 (cr _ _).1 (Nat.le_trans (cr _ _).2 (by decide)))
    · exact two TB' (B2 (cr _ _).1 (Nat.le_trans (cr _ _).2 (by decide)))
    · exact two TB' (B2 (app gr (cr _ _).1) (by rw [List.length_append]; have := (cr (some (-1)) none).2; omega))
    · exact two TB' (B2 (fun x hx => by cases hx) (by decide))
  · simp only [w4, List.mem_cons, List.mem_nil_iff, or_false] at hx
    rcases hx with rfl | rfl | rfl
    · exact two TB' (pr _ (gi _ (by decide)))
    · exact two TB' (pr _ gd_bool)
    · exact (gd_tup 1 (fun x hx => by rw [List.mem_singleton.mp hx]; exact TB) (by simp)).mono (by decide)
  · simp only [w5, List.mem_cons, List.mem_nil_iff, or_false] at hx
    rcases hx with rfl | rfl
    · exact two TB' (pr _ (gi _ (by have := gD many.toNat; omega)))
    · exact two TB' (pr _ (gi _ (by have := gD many.toNat; omega)))
  · simp only [w6, List.mem_cons, List.mem_nil_iff, or_false] at hx
    rcases hx with rfl | rfl | rfl
    · refine (gd_tup (c := 20063) 3 (fun x hx => ?_) (by simp)).mono (by decide)
      simp only [List.mem_cons, List.mem_nil_iff, or_false] at hx
      rcases hx with rfl | rfl | rfl
      · exact TB.mono (by decide)
      · exact TR
      · exact TR
    · refine (gd_list (c := 20063) 2 (fun x hx => ?_) (by simp)).mono (by decide)
      simp only [List.mem_cons, List.mem_nil_iff, or_false] at hx
      rcases hx with rfl | rfl
      · exact TB.mono (by decide)
      · exact TR
    · exact two TR' TB'
  · simp only [w7, List.mem_cons, List.mem_nil_iff, or_false] at hx
    subst hx
    refine (gd_pr TB (gd_tup (c := 10012) 20 (fun x hx => ?_) (by rw [List.length_map]; exact hR))).mono (by decide)
    obtain ⟨i, hi, rfl⟩ := List.mem_map.mp hx
    exact gd_str (Nat.lt_of_le_of_lt (bR i hi) (Nat.lt_of_le_of_lt (by decide) big))
  · simp only [w8, List.mem_cons, List.mem_nil_iff, or_false] at hx
    rcases hx with rfl | rfl
    · exact two TB' (pr _ (gi _ (by have := gD 1; omega)))
    · exact two (pb _ gd_bool) TR'
theorem wrong_ok {k : Nat} {many : Int} {B R : List Int} {h : Heap} (hB : B.length ≤ 100) (hB1 : 1 ≤ B.length) (hR : R.length ≤ 100) (m0 : 1 ≤ many) (m1 : many < R.length) (hs : ∀ x ∈ R, x.natAbs < 2 ^ 1000) (fl : (Val.list (wrongV many B R)).flat = true) :
    callN G (k + 2) 4 [.int many, .tup (B.map .int), .tup (R.map .int)] h = .ok (.list (wrongV many B R)) h := by
  rw [call_succ rfl]
  refine run_pure rfl rfl (flat_lt fl) ?_
  show Wp (evB _ b4 [some (.int many), some (.tup (B.map .int)), some (.tup (R.map .int)), none, none, none] h) _
  have SLv : SL = 16777216 := rfl
  have lb : (B.map Val.int).length ≤ 100 := by rw [List.length_map]; exact hB
  have lr : (R.map Val.int).length ≤ 100 := by rw [List.length_map]; exact hR
  have fb := flats_ints B
  have fr := flats_ints R
  have cb : ∀ a b, (cut (B.map Val.int) a b).length ≤ 1000000 := fun a b => Nat.le_trans (cut_lenL _ a b) (by omega)
  have cr : ∀ a b, (cut (R.map Val.int) a b).length ≤ 1000000 := fun a b => Nat.le_trans (cut_lenL _ a b) (by omega)
  have rv : okTup (B.map Val.int).reverse h = .ok (.tup (B.map Val.int).reverse) h := okTup_ok _ _ (by rw [List.length_reverse]; omega)
  have lb' : (B.map Val.int).length ≤ 1000000 := by omega
  have lr' : (R.map Val.int).length ≤ 1000000 := by omega
  have lbS : (B.map Val.int).length ≤ SL := by omega
  have lrS : (R.map Val.int).length ≤ SL := by omega
  have one : ∀ v : Val, [v].length ≤ 1000000 := fun v => by simp
  refine wp_seq ?_
  decreasing_trivial
  simp only [rv, okTup_app (cb _ _) lb', wp_ok, bind_ok]
  decreasing_trivial
  rw [okList_mut _ _ (by show 4 ≤ SL; decide)]
  decreasing_trivial
  generalize e0 : (h ++ [Obj.list [Val.tup [Val.tup (B.map Val.int).reverse, Val.tup (R.map Val.int)], Val.tup [Val.tup (cut (B.map Val.int) none (some 1) ++ B.map Val.int), Val.tup (R.map Val.int)], Val.tup [Val.tup (cut (B.map Val.int) (some 1) none), Val.tup (R.map Val.int)], Val.tup [Val.tup (cut (B.map Val.int) none (some (-1))), Val.tup (R.map Val.int)]]] : Heap) = H0
  have q0 : H0[h.length]? = some (.list (w0 (B.map .int) (R.map .int))) := by rw [← e0]; exact at_end _ _ _
  have t0 : ∃ t, H0 = h ++ t := ⟨_, e0.symm⟩
  refine step_addm rfl q0 t0 (ys := w1 many (B.map .int) (R.map .int)) ?_ (by show 4 + 3 ≤ 1000; omega) fun H1 n1 q1 t1 z1 => ?_
  · have o1 : ∀ x, okTup (x :: B.map Val.int) H0 = .ok (.tup (x :: B.map Val.int)) H0 := fun x => okTup_ok _ _ (by rw [List.length_cons]; omega)
    decreasing_trivial
    simp only [o1, okTup_app lb' (one _), bind_ok]
    decreasing_trivial
    try simp only [o1, okTup_app lb' (one _), bind_ok]
    try decreasing_trivial
    rfl
  refine step_addm rfl q1 t1 (ys := w2 many (B.map .int) (R.map .int)) ?_ (by show 7 + 3 ≤ 1000; omega) fun H2 n2 q2 t2 z2 => ?_
  · decreasing_trivial
    simp only [okTup_app lb' (one _), bind_ok, okList_ok _ _ lbS, okList_ok _ _ lrS]
    decreasing_trivial
    try simp only [okList_ok _ _ lbS, okList_ok _ _ lrS, bind_ok]
    try decreasing_trivial
    rfl
  refine step_addm rfl q2 t2 (ys := w3 (B.map .int) (R.map .int)) ?_ (by show 10 + 4 ≤ 1000; omega) fun H3 n3 q3 t3 z3 => ?_
  · decreasing_trivial
    simp only [okTup_app lr' (cr _ _), bind_ok]
    decreasing_trivial
    rfl
  refine step_addm rfl q3 t3 (ys := w4 (B.map .int) (R.map .int)) ?_ (by show 14 + 3 ≤ 1000; omega) fun H4 n4 q4 t4 z4 => ?_
  · decreasing_trivial
    simp only [put_ok (k := k) (p := .int 1) lr' fr rfl, put_ok (k := k) (p := .bool false) lr' fr rfl, bind_ok]
    decreasing_trivial
    rfl
  refine wp_seq ?_
  decreasing_trivial
  rw [atI_getD (n := many.toNat) (by omega) (by omega)]
  decreasing_trivial
  refine step_addm rfl q4 t4 (ys := w5 many (B.map .int) (R.map .int) (R.getD many.toNat 0)) ?_ (by show 17 + 2 ≤ 1000; omega) fun H5 n5 q5 t5 z5 => ?_
  · decreasing_trivial
    simp only [put_ok (k := k) (p := .int (R.getD many.toNat 0 + 1)) lr' fr rfl, put_ok (k := k) (p := .int (R.getD many.toNat 0 - 1)) lr' fr rfl, bind_ok]
    decreasing_trivial
    rfl
  refine step_addm rfl q5 t5 (ys := w6 (B.map .int) (R.map .int)) ?_ (by show 19 + 3 ≤ 1000; omega) fun H6 n6 q6 t6 z6 => ?_
  · decreasing_trivial
    rfl
  have cs : turns none (fun v h => (evP P.str [v] h).bind fun v h => Res.ok [v] h) (R.map .int) H6 = .ok (R.map strV) H6 := comp_int_map strV fun c hc => by
    rw [p_str_int _ (hs c hc)]
    rfl
  have lst : (R.map strV).length ≤ SL := by rw [List.length_map]; omega
  refine wp_seq ?_
  decreasing_trivial
  simp only [recv_append q6, if_tt, if_true]
  decreasing_trivial
  refine Wp.of_eq cs ?_
  rw [okList_ok _ _ lst]
  decreasing_trivial
  rw [okTup_ok _ _ lst]
  decreasing_trivial
  rw [append_ref q6 (by show 22 < SL; decide)]
  decreasing_trivial
  have q7 : (H6.set n6 (.list (w0 (B.map .int) (R.map .int) ++ w1 many (B.map .int) (R.map .int) ++ w2 many (B.map .int) (R.map .int) ++ w3 (B.map .int) (R.map .int) ++ w4 (B.map .int) (R.map .int) ++ w5 many (B.map .int) (R.map .int) (R.getD many.toNat 0) ++ w6 (B.map .int) (R.map .int) ++ w7 (B.map .int) R)) : Heap)[n6]? = some (.list (w0 (B.map .int) (R.map .int) ++ w1 many (B.map .int) (R.map .int) ++ w2 many (B.map .int) (R.map .int) ++ w3 (B.map .int) (R.map .int) ++ w4 (B.map .int) (R.map .int) ++ w5 many (B.map .int) (R.map .int) (R.getD many.toNat 0) ++ w6 (B.map .int) (R.map .int) ++ w7 (B.map .int) R)) := by
    have : n6 < H6.length := (List.getElem?_eq_some_iff.mp q6).1
    rw [List.getElem?_set_self this]
  obtain ⟨t6, rfl⟩ := t6
  have st : ∀ o : Obj, (h ++ t6 : Heap).set n6 o = h ++ t6.set (n6 - h.length) o := fun o => List.set_append_right _ _ z6
  generalize e7 : ((h ++ t6 : Heap).set n6 (.list (w0 (B.map .int) (R.map .int) ++ w1 many (B.map .int) (R.map .int) ++ w2 many (B.map .int) (R.map .int) ++ w3 (B.map .int) (R.map .int) ++ w4 (B.map .int) (R.map .int) ++ w5 many (B.map .int) (R.map .int) (R.getD many.toNat 0) ++ w6 (B.map .int) (R.map .int) ++ w7 (B.map .int) R)) : Heap) = H7 at q7
  have t7 : ∃ t, H7 = h ++ t := ⟨_, e7.symm.trans (st _)⟩
  have e7' : ((h ++ t6 : Heap).set n6 (.list (w0 (B.map .int) (R.map .int) ++ w1 many (B.map .int) (R.map .int) ++ w2 many (B.map .int) (R.map .int) ++ w3 (B.map .int) (R.map .int) ++ w4 (B.map .int) (R.map .int) ++ w5 many (B.map .int) (R.map .int) (R.getD many.toNat 0) ++ w6 (B.map .int) (R.map .int) ++ [Val.tup [.tup (B.map .int), .tup (R.map strV)]])) : Heap) = H7 := e7
  rw [e7']
  refine wp_one ?_
  decreasing_trivial
  rw [atI_getD (n := 1) (by omega) (by omega)]
  decreasing_trivial
  simp only [put_ok (k := k) (p := .int (R.getD 1 0 + 1)) lr' fr rfl, put_ok (k := k) (p := .bool true) lb' fb rfl, wp_ok, bind_ok]
  decreasing_trivial
  have d : dr H7 (.ref n6) = some (.list (w0 (B.map .int) (R.map .int) ++ w1 many (B.map .int) (R.map .int) ++ w2 many (B.map .int) (R.map .int) ++ w3 (B.map .int) (R.map .int) ++ w4 (B.map .int) (R.map .int) ++ w5 many (B.map .int) (R.map .int) (R.getD many.toNat 0) ++ w6 (B.map .int) (R.map .int) ++ w7 (B.map .int) R)) := by
    show (match H7[n6]? with
      | some (.list xs) => some (Val.list xs)
      | some (.dict ks vs) => some (.dict ks vs)
      | _ => none) = _
    rw [q7]
  have ad : ∀ ys : List Val, ys.length ≤ 10 → evP .add [.ref n6, .list ys] H7 = .ok (.list ((w0 (B.map .int) (R.map .int) ++ w1 many (B.map .int) (R.map .int) ++ w2 many (B.map .int) (R.map .int) ++ w3 (B.map .int) (R.map .int) ++ w4 (B.map .int) (R.map .int) ++ w5 many (B.map .int) (R.map .int) (R.getD many.toNat 0) ++ w6 (B.map .int) (R.map .int) ++ w7 (B.map .int) R) ++ ys)) H7 := fun ys hy => by
    show (match dr H7 (.ref n6), dr H7 (.list ys) with
      | some (.list xs), some (.list ys) => okList false (xs ++ ys) H7
      | _, _ => .stuck) = _
    rw [d]
    exact okList_ok _ _ (by
      rw [List.length_append]
      show 23 + ys.length ≤ SL
      omega)
  rw [ad _ (by show 2 ≤ 10; decide)]
  obtain ⟨t7, rfl⟩ := t7
  exact ⟨rfl, t7, rfl⟩
end M
namespace M
theorem rng_getD : ∀ (n j : Nat) (lo : Int), j < n → (rngI lo n)[j]? = some (lo + j)
  | 0, j, _, h => by omega
  | n + 1, 0, lo, _ => by show some lo = _; congr 1; omega
  | n + 1, j + 1, lo, h => by
    show (rngI (lo + 1) n)[j]? = _
    rw [rng_getD n j (lo + 1) (by omega)]
    congr 1
    omega
/-- the worths, as multiples of the weight -/
def cW (H N : Int) (j : Nat) : Int := if j = 0 then 0 else if (j : Int) < H * N then ((j : Int) - 1) / H + 1 else N - 1
theorem row_len {H N W : Int} (h : 1 ≤ H * N) : (rowW H N W).length = (H * N).toNat + 1 := by
  unfold rowW
  simp only [List.length_append, List.length_map, rng_len, List.length_cons, List.length_nil]
  omega
theorem row_at {H N W : Int} {j : Nat} (h : 1 ≤ H * N) (hj : (j : Int) ≤ H * N) : (rowW H N W).getD j 0 = W * cW H N j := by
  unfold rowW cW
  by_cases z : j = 0
  · subst z; simp
  · rw [if_neg z]
    have lm : (([0] : List Int) ++ (rngI 1 (H * N - 1).toNat).map fun k => W * ((k - 1) / H + 1)).length = (H * N - 1).toNat + 1 := by simp [rng_len]
    by_cases q : (j : Int) < H * N
    · rw [if_pos q]
      simp only [List.getD_eq_getElem?_getD]
      rw [List.getElem?_append_left (by omega), List.getElem?_append_right (by simp; omega), List.getElem?_map, rng_getD _ _ _ (by simp; omega)]
      simp only [Option.map_some, Option.getD_some, List.length_cons, List.length_nil]
      have : (1 : Int) + ((j - (0 + 1) : Nat) : Int) - 1 = (j : Int) - 1 := by omega
      rw [this]
    · rw [if_neg q]
      simp only [List.getD_eq_getElem?_getD]
      rw [List.getElem?_append_right (by omega), lm]
      have : j - ((H * N - 1).toNat + 1) = 0 := by omega
      rw [this]
      rfl
theorem over_le {W L m d : Int} (hm : m = max 0 d) (w1 : 1 ≤ W) (w2 : W ≤ 50) (l1 : 1 ≤ L) : W * m ≤ 1000 * max 0 (d * (L + 1)) := by
  have h0 : 0 ≤ m := by omega
  have h1 : W * m ≤ 50 * m := Int.mul_le_mul_of_nonneg_right w2 h0
  by_cases z : 0 ≤ d
  · have e : m = d := by omega
    have h2 : d * 2 ≤ d * (L + 1) := Int.mul_le_mul_of_nonneg_left (by omega) z
    omega
  · have e : m = 0 := by omega
    rw [e] at h1 ⊢
    have : (0 : Int) ≤ max 0 (d * (L + 1)) := Int.le_max_left _ _
    omega
theorem cw_le {L H N W C : Int} (w : Wld L H N W C) {i j : Nat} (hij : i < j) (hj : (j : Int) ≤ H * N) : cW H N j ≤ cW H N i + max 0 ((j : Int) - i - H) + (if (j : Int) < H * N then 1 else 0) := by
  obtain ⟨_, _, h, n1, n2, _, _, _, _⟩ := w
  have hN : N = 3 ∨ N = 4 ∨ N = 5 := by omega
  unfold cW
  rcases h with rfl | rfl <;> rcases hN with rfl | rfl | rfl <;> (repeat' split) <;> omega
theorem right_worths {L H N W C : Int} (w : Wld L H N W C) : worthsB (scanI 0 (List.replicate (H * N).toNat L)) (List.replicate ((H * N).toNat - 1) W) C C (C + H * (L + 1) - 1) (.tup ((rowW H N W).map .int)) = true := by
  have hn := hn_bound w
  have sl : (scanI 0 (List.replicate (H * N).toNat L)).length = (H * N).toNat + 1 := by rw [scanI_len, List.length_replicate]
  refine hw_true (ints_all _) (by show ((rowW H N W).map Val.int).length = _; rw [List.length_map, row_len (by omega), sl]) ?_ fun j i j1 j2 hi => ?_
  · show (((rowW H N W).map Val.int).map getI).getD 0 0 = 0
    rw [getI_map, row_at (by omega) (by omega)]
    show W * 0 = 0
    exact Int.mul_zero W
  · show (((rowW H N W).map Val.int).map getI).getD j 0 ≤ (((rowW H N W).map Val.int).map getI).getD i 0 + _
    rw [sl] at j2
    have e := cw_le w hi (by omega)
    rw [getI_map, row_at (by omega) (by omega), row_at (by omega) (by omega), lc0 hi (by omega)]
    have o := over_le (L := L) (d := (j : Int) - i - H) rfl w.w1 w.w2 w.l1
    have m := Int.mul_le_mul_of_nonneg_left e (show 0 ≤ W from by have := w.w1; omega)
    rw [Int.mul_add, Int.mul_add] at m
    have c : W * (if (j : Int) < H * N then 1 else 0) = (if j < (H * N).toNat then W else 0) := by
      by_cases z : (j : Int) < H * N
      · rw [if_pos z, if_pos (by omega), Int.mul_one]
      · rw [if_neg z, if_neg (by omega), Int.mul_zero]
    rw [c] at m
    omega
theorem row_get_last {H N W : Int} : (((rowW H N W).map Val.int).map getI).getLast?.getD 0 = W * (N - 1) := by
  rw [getI_map]
  unfold rowW
  rw [List.getLast?_concat]
  rfl
theorem wrong_23 {L W C : Int} (l1 : 1 ≤ L) (l2 : L ≤ 20) (w1 : 1 ≤ W) (w2 : W ≤ 50) : ∀ x ∈ wrongV 6 [1, 3] [0, W * 1, W * 1, W * 2, W * 2, W * 3, W * 2], holdsB (List.replicate 6 L) (List.replicate (6 - 1) W) C C (C + 2 * (L + 1) - 1) x = false := by
  intro x hx
  have hx : x ∈ ([.tup [.tup [.int 3, .int 1], .tup [.int (0), .int (W * 1), .int (W * 1), .int (W * 2), .int (W * 2), .int (W * 3), .int (W * 2)]], .tup [.tup [.int 1, .int 1, .int 3], .tup [.int (0), .int (W * 1), .int (W * 1), .int (W * 2), .int (W * 2), .int (W * 3), .int (W * 2)]], .tup [.tup [.int 3], .tup [.int (0), .int (W * 1), .int (W * 1), .int (W * 2), .int (W * 2), .int (W * 3), .int (W * 2)]], .tup [.tup [.int 1], .tup [.int (0), .int (W * 1), .int (W * 1), .int (W * 2), .int (W * 2), .int (W * 3), .int (W * 2)]], .tup [.tup [.int 0, .int 1, .int 3], .tup [.int (0), .int (W * 1), .int (W * 1), .int (W * 2), .int (W * 2), .int (W * 3), .int (W * 2)]], .tup [.tup [.int 1, .int 3, .int 5], .tup [.int (0), .int (W * 1), .int (W * 1), .int (W * 2), .int (W * 2), .int (W * 3), .int (W * 2)]], .tup [.tup [.int (-1), .int 1, .int 3], .tup [.int (0), .int (W * 1), .int (W * 1), .int (W * 2), .int (W * 2), .int (W * 3), .int (W * 2)]], .tup [.tup [.int 1, .int 3, .int 6], .tup [.int (0), .int (W * 1), .int (W * 1), .int (W * 2), .int (W * 2), .int (W * 3), .int (W * 2)]], .tup [.list [.int 1, .int 3], .tup [.int (0), .int (W * 1), .int (W * 1), .int (W * 2), .int (W * 2), .int (W * 3), .int (W * 2)]], .tup [.tup [.int 1, .int 3], .list [.int (0), .int (W * 1), .int (W * 1), .int (W * 2), .int (W * 2), .int (W * 3), .int (W * 2)]], .tup [.tup [.int 1, .int 3], .tup [.int (W * 1), .int (W * 1), .int (W * 2), .int (W * 2), .int (W * 3), .int (W * 2)]], .tup [.tup [.int 1, .int 3], .tup [.int (0), .int (W * 1), .int (W * 1), .int (W * 2), .int (W * 2), .int (W * 3)]], .tup [.tup [.int 1, .int 3], .tup [.int (0), .int (W * 1), .int (W * 1), .int (W * 2), .int (W * 2), .int (W * 3), .int (W * 2), .int (W * 2)]], .tup [.tup [.int 1, .int 3], .tup []], .tup [.tup [.int 1, .int 3], .tup [.int 1, .int (W * 1), .int (W * 1), .int (W * 2), .int (W * 2), .int (W * 3), .int (W * 2)]], .tup [.tup [.int 1, .int 3], .tup [.bool false, .int (W * 1), .int (W * 1), .int (W * 2), .int (W * 2), .int (W * 3), .int (W * 2)]], .tup [.tup [.int 1, .int 3]], .tup [.tup [.int 1, .int 3], .tup [.int (0), .int (W * 1), .int (W * 1), .int (W * 2), .int (W * 2), .int (W * 3), .int (W * 2 + 1)]], .tup [.tup [.int 1, .int 3], .tup [.int (0), .int (W * 1), .int (W * 1), .int (W * 2), .int (W * 2), .int (W * 3), .int (W * 2 - 1)]], .tup [.tup [.int 1, .int 3], .tup [.int (0), .int (W * 1), .int (W * 1), .int (W * 2), .int (W * 2), .int (W * 3), .int (W * 2)], .tup [.int (0), .int (W * 1), .int (W * 1), .int (W * 2), .int (W * 2), .int (W * 3), .int (W * 2)]], .list [.tup [.int 1, .int 3], .tup [.int (0), .int (W * 1), .int (W * 1), .int (W * 2), .int (W * 2), .int (W * 3), .int (W * 2)]], .tup [.tup [.int (0), .int (W * 1), .int (W * 1), .int (W * 2), .int (W * 2), .int (W * 3), .int (W * 2)], .tup [.int 1, .int 3]], .tup [.tup [.int 1, .int 3], .tup [strV (0), strV (W * 1), strV (W * 1), strV (W * 2), strV (W * 2), strV (W * 3), strV (W * 2)]], .tup [.tup [.int 1, .int 3], .tup [.int (0), .int (W * 1 + 1), .int (W * 1), .int (W * 2), .int (W * 2), .int (W * 3), .int (W * 2)]], .tup [.tup [.bool true, .int 3], .tup [.int (0), .int (W * 1), .int (W * 1), .int (W * 2), .int (W * 2), .int (W * 3), .int (W * 2)]]] : List Val) := hx
  simp only [List.mem_cons, List.mem_nil_iff, or_false] at hx
  rcases hx with rfl | rfl | rfl | rfl | rfl | rfl | rfl | rfl | rfl | rfl | rfl | rfl | rfl | rfl | rfl | rfl | rfl | rfl | rfl | rfl | rfl | rfl | rfl | rfl | rfl
  · exact hb_false rfl
  · exact hb_false rfl
  · exact hc_false (by show bco _ _ _ _ _ 0 [4, 6] ≠ W * 2; simp only [bco, lc0, Nat.reduceLT, Nat.reduceLeDiff, if_true, if_false, Nat.lt_irrefl]; omega)
  · exact hc_false (by show bco _ _ _ _ _ 0 [2, 6] ≠ W * 2; simp only [bco, lc0, Nat.reduceLT, Nat.reduceLeDiff, if_true, if_false, Nat.lt_irrefl]; omega)
  · exact hc_false (by show bco _ _ _ _ _ 0 [1, 2, 4, 6] ≠ W * 2; simp only [bco, lc0, Nat.reduceLT, Nat.reduceLeDiff, if_true, if_false, Nat.lt_irrefl]; omega)
  · exact hb_false rfl
  · exact hb_false rfl
  · exact hb_false rfl
  · exact hb_false rfl
  · exact hw_false rfl
  · exact hw_false rfl
  · exact hw_false rfl
  · exact hw_false rfl
  · exact hw_false rfl
  · exact hw_false rfl
  · exact hw_false rfl
  · exact rfl
  · exact hw_false (hw_any 6 4 (by decide) (by rw [scanI_len]; simp) (by decide) (by show W * 2 + 1 > W * 2 + lcost _ _ _ _ _ 4 6; simp only [lc0, Nat.reduceLT, Nat.reduceLeDiff, if_true, if_false, Nat.lt_irrefl]; omega))
  · exact hc_false (by show bco _ _ _ _ _ 0 [2, 4, 6] ≠ W * 2 - 1; simp only [bco, lc0, Nat.reduceLT, Nat.reduceLeDiff, if_true, if_false, Nat.lt_irrefl]; omega)
  · exact rfl
  · exact rfl
  · exact hb_false (by unfold breaksB; rw [Bool.and_eq_false_iff]; right; show (decide (0 < W * 1) && (decide (W * 1 < W * 1) && _)) = false; simp)
  · exact hw_false rfl
  · exact hw_false (hw_any 1 0 (by decide) (by rw [scanI_len]; simp) (by decide) (by show W * 1 + 1 > 0 + lcost _ _ _ _ _ 0 1; simp only [lc0, Nat.reduceLT, Nat.reduceLeDiff, if_true, if_false, Nat.lt_irrefl]; omega))
  · exact hb_false rfl
theorem right_23 {L W C : Int} (l1 : 1 ≤ L) (l2 : L ≤ 20) (w1 : 1 ≤ W) (w2 : W ≤ 50) : bco (scanI 0 (List.replicate 6 L)) (List.replicate (6 - 1) W) C C (C + 2 * (L + 1) - 1) 0 (stopsOf (scanI 0 (List.replicate 6 L)) [1, 3]) = W * 2 := by
  show bco _ _ _ _ _ 0 [2, 4, 6] = W * 2
  simp only [bco, lc0, Nat.reduceLT, Nat.reduceLeDiff, if_true, if_false, Nat.lt_irrefl]
  omega
theorem less_23 {L W C : Int} (l1 : 1 ≤ L) (l2 : L ≤ 20) (w1 : 1 ≤ W) (w2 : W ≤ 50) : bco (scanI 0 (List.replicate 6 L)) (List.replicate (6 - 1) W) C C (C + 2 * (L + 1) - 1 - 1) 0 (stopsOf (scanI 0 (List.replicate 6 L)) [1, 3]) ≠ W * 2 := by
  show bco _ _ _ _ _ 0 [2, 4, 6] ≠ W * 2
  simp only [bco, lc1, Nat.reduceLT, Nat.reduceLeDiff, if_true, if_false, Nat.lt_irrefl]
  omega
theorem wrong_24 {L W C : Int} (l1 : 1 ≤ L) (l2 : L ≤ 20) (w1 : 1 ≤ W) (w2 : W ≤ 50) : ∀ x ∈ wrongV 8 [1, 3, 5] [0, W * 1, W * 1, W * 2, W * 2, W * 3, W * 3, W * 4, W * 3], holdsB (List.replicate 8 L) (List.replicate (8 - 1) W) C C (C + 2 * (L + 1) - 1) x = false := by
  intro x hx
  have hx : x ∈ ([.tup [.tup [.int 5, .int 3, .int 1], .tup [.int (0), .int (W * 1), .int (W * 1), .int (W * 2), .int (W * 2), .int (W * 3), .int (W * 3), .int (W * 4), .int (W * 3)]], .tup [.tup [.int 1, .int 1, .int 3, .int 5], .tup [.int (0), .int (W * 1), .int (W * 1), .int (W * 2), .int (W * 2), .int (W * 3), .int (W * 3), .int (W * 4), .int (W * 3)]], .tup [.tup [.int 3, .int 5], .tup [.int (0), .int (W * 1), .int (W * 1), .int (W * 2), .int (W * 2), .int (W * 3), .int (W * 3), .int (W * 4), .int (W * 3)]], .tup [.tup [.int 1, .int 3], .tup [.int (0), .int (W * 1), .int (W * 1), .int (W * 2), .int (W * 2), .int (W * 3), .int (W * 3), .int (W * 4), .int (W * 3)]], .tup [.tup [.int 0, .int 1, .int 3, .int 5], .tup [.int (0), .int (W * 1), .int (W * 1), .int (W * 2), .int (W * 2), .int (W * 3), .int (W * 3), .int (W * 4), .int (W * 3)]], .tup [.tup [.int 1, .int 3, .int 5, .int 7], .tup [.int (0), .int (W * 1), .int (W * 1), .int (W * 2), .int (W * 2), .int (W * 3), .int (W * 3), .int (W * 4), .int (W * 3)]], .tup [.tup [.int (-1), .int 1, .int 3, .int 5], .tup [.int (0), .int (W * 1), .int (W * 1), .int (W * 2), .int (W * 2), .int (W * 3), .int (W * 3), .int (W * 4), .int (W * 3)]], .tup [.tup [.int 1, .int 3, .int 5, .int 8], .tup [.int (0), .int (W * 1), .int (W * 1), .int (W * 2), .int (W * 2), .int (W * 3), .int (W * 3), .int (W * 4), .int (W * 3)]], .tup [.list [.int 1, .int 3, .int 5], .tup [.int (0), .int (W * 1), .int (W * 1), .int (W * 2), .int (W * 2), .int (W * 3), .int (W * 3), .int (W * 4), .int (W * 3)]], .tup [.tup [.int 1, .int 3, .int 5], .list [.int (0), .int (W * 1), .int (W * 1), .int (W * 2), .int (W * 2), .int (W * 3), .int (W * 3), .int (W * 4), .int (W * 3)]], .tup [.tup [.int 1, .int 3, .int 5], .tup [.int (W * 1), .int (W * 1), .int (W * 2), .int (W * 2), .int (W * 3), .int (W * 3), .int (W * 4), .int (W * 3)]], .tup [.tup [.int 1, .int 3, .int 5], .tup [.int (0), .int (W * 1), .int (W * 1), .int (W * 2), .int (W * 2), .int (W * 3), .int (W * 3), .int (W * 4)]], .tup [.tup [.int 1, .int 3, .int 5], .tup [.int (0), .int (W * 1), .int (W * 1), .int (W * 2), .int (W * 2), .int (W * 3), .int (W * 3), .int (W * 4), .int (W * 3), .int (W * 3)]], .tup [.tup [.int 1, .int 3, .int 5], .tup []], .tup [.tup [.int 1, .int 3, .int 5], .tup [.int 1, .int (W * 1), .int (W * 1), .int (W * 2), .int (W * 2), .int (W * 3), .int (W * 3), .int (W * 4), .int (W * 3)]], .tup [.tup [.int 1, .int 3, .int 5], .tup [.bool false, .int (W * 1), .int (W * 1), .int (W * 2), .int (W * 2), .int (W * 3), .int (W * 3), .int (W * 4), .int (W * 3)]], .tup [.tup [.int 1, .int 3, .int 5]], .tup [.tup [.int 1, .int 3, .int 5], .tup [.int (0), .int (W * 1), .int (W * 1), .int (W * 2), .int (W * 2), .int (W * 3), .int (W * 3), .int (W * 4), .int (W * 3 + 1)]], .tup [.tup [.int 1, .int 3, .int 5], .tup [.int (0), .int (W * 1), .int (W * 1), .int (W * 2), .int (W * 2), .int (W * 3), .int (W * 3), .int (W * 4), .int (W * 3 - 1)]], .tup [.tup [.int 1, .int 3, .int 5], .tup [.int (0), .int (W * 1), .int (W * 1), .int (W * 2), .int (W * 2), .int (W * 3), .int (W * 3), .int (W * 4), .int (W * 3)], .tup [.int (0), .int (W * 1), .int (W * 1), .int (W * 2), .int (W * 2), .int (W * 3), .int (W * 3), .int (W * 4), .int (W * 3)]], .list [.tup [.int 1, .int 3, .int 5], .tup [.int (0), .int (W * 1), .int (W * 1), .int (W * 2), .int (W * 2), .int (W * 3), .int (W * 3), .int (W * 4), .int (W * 3)]], .tup [.tup [.int (0), .int (W * 1), .int (W * 1), .int (W * 2), .int (W * 2), .int (W * 3), .int (W * 3), .int (W * 4), .int (W * 3)], .tup [.int 1, .int 3, .int 5]], .tup [.tup [.int 1, .int 3, .int 5], .tup [strV (0), strV (W * 1), strV (W * 1), strV (W * 2), strV (W * 2), strV (W * 3), strV (W * 3), strV (W * 4), strV (W * 3)]], .tup [.tup [.int 1, .int 3, .int 5], .tup [.int (0), .int (W * 1 + 1), .int (W * 1), .int (W * 2), .int (W * 2), .int (W * 3), .int (W * 3), .int (W * 4), .int (W * 3)]], .tup [.tup [.bool true, .int 3, .int 5], .tup [.int (0), .int (W * 1), .int (W * 1), .int (W * 2), .int (W * 2), .int (W * 3), .int (W * 3), .int (W * 4), .int (W * 3)]]] : List Val) := hx
  simp only [List.mem_cons, List.mem_nil_iff, or_false] at hx
  rcases hx with rfl | rfl | rfl | rfl | rfl | rfl | rfl | rfl | rfl | rfl | rfl | rfl | rfl | rfl | rfl | rfl | rfl | rfl | rfl | rfl | rfl | rfl | rfl | rfl | rfl
  · exact hb_false rfl
  · exact hb_false rfl
  · exact hc_false (by show bco _ _ _ _ _ 0 [4, 6, 8] ≠ W * 3; simp only [bco, lc0, Nat.reduceLT, Nat.reduceLeDiff, if_true, if_false, Nat.lt_irrefl]; omega)
  · exact hc_false (by show bco _ _ _ _ _ 0 [2, 4, 8] ≠ W * 3; simp only [bco, lc0, Nat.reduceLT, Nat.reduceLeDiff, if_true, if_false, Nat.lt_irrefl]; omega)
  · exact hc_false (by show bco _ _ _ _ _ 0 [1, 2, 4, 6, 8] ≠ W * 3; simp only [bco, lc0, Nat.reduceLT, Nat.reduceLeDiff, if_true, if_false, Nat.lt_irrefl]; omega)
  · exact hb_false rfl
  · exact hb_false rfl
  · exact hb_false rfl
  · exact hb_false rfl
  · exact hw_false rfl
  · exact hw_false rfl
  · exact hw_false rfl
  · exact hw_false rfl
  · exact hw_false rfl
  · exact hw_false rfl
  · exact hw_false rfl
  · exact rfl
  · exact hw_false (hw_any 8 6 (by decide) (by rw [scanI_len]; simp) (by decide) (by show W * 3 + 1 > W * 3 + lcost _ _ _ _ _ 6 8; simp only [lc0, Nat.reduceLT, Nat.reduceLeDiff, if_true, if_false, Nat.lt_irrefl]; omega))
  · exact hc_false (by show bco _ _ _ _ _ 0 [2, 4, 6, 8] ≠ W * 3 - 1; simp only [bco, lc0, Nat.reduceLT, Nat.reduceLeDiff, if_true, if_false, Nat.lt_irrefl]; omega)
  · exact rfl
  · exact rfl
  · exact hb_false (by unfold breaksB; rw [Bool.and_eq_false_iff]; right; show (decide (0 < W * 1) && (decide (W * 1 < W * 1) && _)) = false; simp)
  · exact hw_false rfl
  · exact hw_false (hw_any 1 0 (by decide) (by rw [scanI_len]; simp) (by decide) (by show W * 1 + 1 > 0 + lcost _ _ _ _ _ 0 1; simp only [lc0, Nat.reduceLT, Nat.reduceLeDiff, if_true, if_false, Nat.lt_irrefl]; omega))
  · exact hb_false rfl
theorem right_24 {L W C : Int} (l1 : 1 ≤ L) (l2 : L ≤ 20) (w1 : 1 ≤ W) (w2 : W ≤ 50) : bco (scanI 0 (List.replicate 8 L)) (List.replicate (8 - 1) W) C C (C + 2 * (L + 1) - 1) 0 (stopsOf (scanI 0 (List.replicate 8 L)) [1, 3, 5]) = W * 3 := by
  show bco _ _ _ _ _ 0 [2, 4, 6, 8] = W * 3
  simp only [bco, lc0, Nat.reduceLT, Nat.reduceLeDiff, if_true, if_false, Nat.lt_irrefl]
  omega
theorem less_24 {L W C : Int} (l1 : 1 ≤ L) (l2 : L ≤ 20) (w1 : 1 ≤ W) (w2 : W ≤ 50) : bco (scanI 0 (List.replicate 8 L)) (List.replicate (8 - 1) W) C C (C + 2 * (L + 1) - 1 - 1) 0 (stopsOf (scanI 0 (List.replicate 8 L)) [1, 3, 5]) ≠ W * 3 := by
  show bco _ _ _ _ _ 0 [2, 4, 6, 8] ≠ W * 3
  simp only [bco, lc1, Nat.reduceLT, Nat.reduceLeDiff, if_true, if_false, Nat.lt_irrefl]
  omega
theorem wrong_25 {L W C : Int} (l1 : 1 ≤ L) (l2 : L ≤ 20) (w1 : 1 ≤ W) (w2 : W ≤ 50) : ∀ x ∈ wrongV 10 [1, 3, 5, 7] [0, W * 1, W * 1, W * 2, W * 2, W * 3, W * 3, W * 4, W * 4, W * 5, W * 4], holdsB (List.replicate 10 L) (List.replicate (10 - 1) W) C C (C + 2 * (L + 1) - 1) x = false := by
  intro x hx
  have hx : x ∈ ([.tup [.tup [.int 7, .int 5, .int 3, .int 1], .tup [.int (0), .int (W * 1), .int (W * 1), .int (W * 2), .int (W * 2), .int (W * 3), .int (W * 3), .int (W * 4), .int (W * 4), .int (W * 5), .int (W * 4)]], .tup [.tup [.int 1, .int 1, .int 3, .int 5, .int 7], .tup [.int (0), .int (W * 1), .int (W * 1), .int (W * 2), .int (W * 2), .int (W * 3), .int (W * 3), .int (W * 4), .int (W * 4), .int (W * 5), .int (W * 4)]], .tup [.tup [.int 3, .int 5, .int 7], .tup [.int (0), .int (W * 1), .int (W * 1), .int (W * 2), .int (W * 2), .int (W * 3), .int (W * 3), .int (W * 4), .int (W * 4), .int (W * 5), .int (W * 4)]], .tup [.tup [.int 1, .int 3, .int 5], .tup [.int (0), .int (W * 1), .int (W * 1), .int (W * 2), .int (W * 2), .int (W * 3), .int (W * 3), .int (W * 4), .int (W * 4), .int (W * 5), .int (W * 4)]], .tup [.tup [.int 0, .int 1, .int 3, .int 5, .int 7], .tup [.int (0), .int (W * 1), .int (W * 1), .int (W * 2), .int (W * 2), .int (W * 3), .int (W * 3), .int (W * 4), .int (W * 4), .int (W * 5), .int (W * 4)]], .tup [.tup [.int 1, .int 3, .int 5, .int 7, .int 9], .tup [.int (0), .int (W * 1), .int (W * 1), .int (W * 2), .int (W * 2), .int (W * 3), .int (W * 3), .int (W * 4), .int (W * 4), .int (W * 5), .int (W * 4)]], .tup [.tup [.int (-1), .int 1, .int 3, .int 5, .int 7], .tup [.int (0), .int (W * 1), .int (W * 1), .int (W * 2), .int (W * 2), .int (W * 3), .int (W * 3), .int (W * 4), .int (W * 4), .int (W * 5), .int (W * 4)]], .tup [.tup [.int 1, .int 3, .int 5, .int 7, .int 10], .tup [.int (0), .int (W * 1), .int (W * 1), .int (W * 2), .int (W * 2), .int (W * 3), .int (W * 3), .int (W * 4), .int (W * 4), .int (W * 5), .int (W * 4)]], .tup [.list [.int 1, .int 3, .int 5, .int 7], .tup [.int (0), .int (W * 1), .int (W * 1), .int (W * 2), .int (W * 2), .int (W * 3), .int (W * 3), .int (W * 4), .int (W * 4), .int (W * 5), .int (W * 4)]], .tup [.tup [.int 1, .int 3, .int 5, .int 7], .list [.int (0), .int (W * 1), .int (W * 1), .int (W * 2), .int (W * 2), .int (W * 3), .int (W * 3), .int (W * 4), .int (W * 4), .int (W * 5), .int (W * 4)]], .tup [.tup [.int 1, .int 3, .int 5, .int 7], .tup [.int (W * 1), .int (W * 1), .int (W * 2), .int (W * 2), .int (W * 3), .int (W * 3), .int (W * 4), .int (W * 4), .int (W * 5), .int (W * 4)]], .tup [.tup [.int 1, .int 3, .int 5, .int 7], .tup [.int (0), .int (W * 1), .int (W * 1), .int (W * 2), .int (W * 2), .int (W * 3), .int (W * 3), .int (W * 4), .int (W * 4), .int (W * 5)]], .tup [.tup [.int 1, .int 3, .int 5, .int 7], .tup [.int (0), .int (W * 1), .int (W * 1), .int (W * 2), .int (W * 2), .int (W * 3), .int (W * 3), .int (W * 4), .int (W * 4), .int (W * 5), .int (W * 4), .int (W * 4)]], .tup [.tup [.int 1, .int 3, .int 5, .int 7], .tup []], .tup [.tup [.int 1, .int 3, .int 5, .int 7], .tup [.int 1, .int (W * 1), .int (W * 1), .int (W * 2), .int (W * 2), .int (W * 3), .int (W * 3), .int (W * 4), .int (W * 4), .int (W * 5), .int (W * 4)]], .tup [.tup [.int 1, .int 3, .int 5, .int 7], .tup [.bool false, .int (W * 1), .int (W * 1), .int (W * 2), .int (W * 2), .int (W * 3), .int (W * 3), .int (W * 4), .int (W * 4), .int (W * 5), .int (W * 4)]], .tup [.tup [.int 1, .int 3, .int 5, .int 7]], .tup [.tup [.int 1, .int 3, .int 5, .int 7], .tup [.int (0), .int (W * 1), .int (W * 1), .int (W * 2), .int (W * 2), .int (W * 3), .int (W * 3), .int (W * 4), .int (W * 4), .int (W * 5), .int (W * 4 + 1)]], .tup [.tup [.int 1, .int 3, .int 5, .int 7], .tup [.int (0), .int (W * 1), .int (W * 1), .int (W * 2), .int (W * 2), .int (W * 3), .int (W * 3), .int (W * 4), .int (W * 4), .int (W * 5), .int (W * 4 - 1)]], .tup [.tup [.int 1, .int 3, .int 5, .int 7], .tup [.int (0), .int (W * 1), .int (W * 1), .int (W * 2), .int (W * 2), .int (W * 3), .int (W * 3), .int (W * 4), .int (W * 4), .int (W * 5), .int (W * 4)], .tup [.int (0), .int (W * 1), .int (W * 1), .int (W * 2), .int (W * 2), .int (W * 3), .int (W * 3), .int (W * 4), .int (W * 4), .int (W * 5), .int (W * 4)]], .list [.tup [.int 1, .int 3, .int 5, .int 7], .tup [.int (0), .int (W * 1), .int (W * 1), .int (W * 2), .int (W * 2), .int (W * 3), .int (W * 3), .int (W * 4), .int (W * 4), .int (W * 5), .int (W * 4)]], .tup [.tup [.int (0), .int (W * 1), .int (W * 1), .int (W * 2), .int (W * 2), .int (W * 3), .int (W * 3), .int (W * 4), .int (W * 4), .int (W * 5), .int (W * 4)], .tup [.int 1, .int 3, .int 5, .int 7]], .tup [.tup [.int 1, .int 3, .int 5, .int 7], .tup [strV (0), strV (W * 1), strV (W * 1), strV (W * 2), strV (W * 2), strV (W * 3), strV (W * 3), strV (W * 4), strV (W * 4), strV (W * 5), strV (W * 4)]], .tup [.tup [.int 1, .int 3, .int 5, .int 7], .tup [.int (0), .int (W * 1 + 1), .int (W * 1), .int (W * 2), .int (W * 2), .int (W * 3), .int (W * 3), .int (W * 4), .int (W * 4), .int (W * 5), .int (W * 4)]], .tup [.tup [.bool true, .int 3, .int 5, .int 7], .tup [.int (0), .int (W * 1), .int (W * 1), .int (W * 2), .int (W * 2), .int (W * 3), .int (W * 3), .int (W * 4), .int (W * 4), .int (W * 5), .int (W * 4)]]] : List Val) := hx
  simp only [List.mem_cons, List.mem_nil_iff, or_false] at hx
  rcases hx with rfl | rfl | rfl | rfl | rfl | rfl | rfl | rfl | rfl | rfl | rfl | rfl | rfl | rfl | rfl | rfl | rfl | rfl | rfl | rfl | rfl | rfl | rfl | rfl | rfl
  · exact hb_false rfl
  · exact hb_false rfl
  · exact hc_false (by show bco _ _ _ _ _ 0 [4, 6, 8, 10] ≠ W * 4; simp only [bco, lc0, Nat.reduceLT, Nat.reduceLeDiff, if_true, if_false, Nat.lt_irrefl]; omega)
  · exact hc_false (by show bco _ _ _ _ _ 0 [2, 4, 6, 10] ≠ W * 4; simp only [bco, lc0, Nat.reduceLT, Nat.reduceLeDiff, if_true, if_false, Nat.lt_irrefl]; omega)
  · exact hc_false (by show bco _ _ _ _ _ 0 [1, 2, 4, 6, 8, 10] ≠ W * 4; simp only [bco, lc0, Nat.reduceLT, Nat.reduceLeDiff, if_true, if_false, Nat.lt_irrefl]; omega)
  · exact hb_false rfl
  · exact hb_false rfl
  · exact hb_false rfl
  · exact hb_false rfl
  · exact hw_false rfl
  · exact hw_false rfl
  · exact hw_false rfl
  · exact hw_false rfl
  · exact hw_false rfl
  · exact hw_false rfl
  · exact hw_false rfl
  · exact rfl
  · exact hw_false (hw_any 10 8 (by decide) (by rw [scanI_len]; simp) (by decide) (by show W * 4 + 1 > W * 4 + lcost _ _ _ _ _ 8 10; simp only [lc0, Nat.reduceLT, Nat.reduceLeDiff, if_true, if_false, Nat.lt_irrefl]; omega))
  · exact hc_false (by show bco _ _ _ _ _ 0 [2, 4, 6, 8, 10] ≠ W * 4 - 1; simp only [bco, lc0, Nat.reduceLT, Nat.reduceLeDiff, if_true, if_false, Nat.lt_irrefl]; omega)
  · exact rfl
  · exact rfl
  · exact hb_false (by unfold breaksB; rw [Bool.and_eq_false_iff]; right; show (decide (0 < W * 1) && (decide (W * 1 < W * 1) && _)) = false; simp)
  · exact hw_false rfl
  · exact hw_false (hw_any 1 0 (by decide) (by rw [scanI_len]; simp) (by decide) (by show W * 1 + 1 > 0 + lcost _ _ _ _ _ 0 1; simp only [lc0, Nat.reduceLT, Nat.reduceLeDiff, if_true, if_false, Nat.lt_irrefl]; omega))
  · exact hb_false rfl
theorem right_25 {L W C : Int} (l1 : 1 ≤ L) (l2 : L ≤ 20) (w1 : 1 ≤ W) (w2 : W ≤ 50) : bco (scanI 0 (List.replicate 10 L)) (List.replicate (10 - 1) W) C C (C + 2 * (L + 1) - 1) 0 (stopsOf (scanI 0 (List.replicate 10 L)) [1, 3, 5, 7]) = W * 4 := by
  show bco _ _ _ _ _ 0 [2, 4, 6, 8, 10] = W * 4
  simp only [bco, lc0, Nat.reduceLT, Nat.reduceLeDiff, if_true, if_false, Nat.lt_irrefl]
  omega
theorem less_25 {L W C : Int} (l1 : 1 ≤ L) (l2 : L ≤ 20) (w1 : 1 ≤ W) (w2 : W ≤ 50) : bco (scanI 0 (List.replicate 10 L)) (List.replicate (10 - 1) W) C C (C + 2 * (L + 1) - 1 - 1) 0 (stopsOf (scanI 0 (List.replicate 10 L)) [1, 3, 5, 7]) ≠ W * 4 := by
  show bco _ _ _ _ _ 0 [2, 4, 6, 8, 10] ≠ W * 4
  simp only [bco, lc1, Nat.reduceLT, Nat.reduceLeDiff, if_true, if_false, Nat.lt_irrefl]
  omega
theorem wrong_33 {L W C : Int} (l1 : 1 ≤ L) (l2 : L ≤ 20) (w1 : 1 ≤ W) (w2 : W ≤ 50) : ∀ x ∈ wrongV 9 [2, 5] [0, W * 1, W * 1, W * 1, W * 2, W * 2, W * 2, W * 3, W * 3, W * 2], holdsB (List.replicate 9 L) (List.replicate (9 - 1) W) C C (C + 3 * (L + 1) - 1) x = false := by
  intro x hx
  have hx : x ∈ ([.tup [.tup [.int 5, .int 2], .tup [.int (0), .int (W * 1), .int (W * 1), .int (W * 1), .int (W * 2), .int (W * 2), .int (W * 2), .int (W * 3), .int (W * 3), .int (W * 2)]], .tup [.tup [.int 2, .int 2, .int 5], .tup [.int (0), .int (W * 1), .int (W * 1), .int (W * 1), .int (W * 2), .int (W * 2), .int (W * 2), .int (W * 3), .int (W * 3), .int (W * 2)]], .tup [.tup [.int 5], .tup [.int (0), .int (W * 1), .int (W * 1), .int (W * 1), .int (W * 2), .int (W * 2), .int (W * 2), .int (W * 3), .int (W * 3), .int (W * 2)]], .tup [.tup [.int 2], .tup [.int (0), .int (W * 1), .int (W * 1), .int (W * 1), .int (W * 2), .int (W * 2), .int (W * 2), .int (W * 3), .int (W * 3), .int (W * 2)]], .tup [.tup [.int 0, .int 2, .int 5], .tup [.int (0), .int (W * 1), .int (W * 1), .int (W * 1), .int (W * 2), .int (W * 2), .int (W * 2), .int (W * 3), .int (W * 3), .int (W * 2)]], .tup [.tup [.int 2, .int 5, .int 8], .tup [.int (0), .int (W * 1), .int (W * 1), .int (W * 1), .int (W * 2), .int (W * 2), .int (W * 2), .int (W * 3), .int (W * 3), .int (W * 2)]], .tup [.tup [.int (-1), .int 2, .int 5], .tup [.int (0), .int (W * 1), .int (W * 1), .int (W * 1), .int (W * 2), .int (W * 2), .int (W * 2), .int (W * 3), .int (W * 3), .int (W * 2)]], .tup [.tup [.int 2, .int 5, .int 9], .tup [.int (0), .int (W * 1), .int (W * 1), .int (W * 1), .int (W * 2), .int (W * 2), .int (W * 2), .int (W * 3), .int (W * 3), .int (W * 2)]], .tup [.list [.int 2, .int 5], .tup [.int (0), .int (W * 1), .int (W * 1), .int (W * 1), .int (W * 2), .int (W * 2), .int (W * 2), .int (W * 3), .int (W * 3), .int (W * 2)]], .tup [.tup [.int 2, .int 5], .list [.int (0), .int (W * 1), .int (W * 1), .int (W * 1), .int (W * 2), .int (W * 2), .int (W * 2), .int (W * 3), .int (W * 3), .int (W * 2)]], .tup [.tup [.int 2, .int 5], .tup [.int (W * 1), .int (W * 1), .int (W * 1), .int (W * 2), .int (W * 2), .int (W * 2), .int (W * 3), .int (W * 3), .int (W * 2)]], .tup [.tup [.int 2, .int 5], .tup [.int (0), .int (W * 1), .int (W * 1), .int (W * 1), .int (W * 2), .int (W * 2), .int (W * 2), .int (W * 3), .int (W * 3)]], .tup [.tup [.int 2, .int 5], .tup [.int (0), .int (W * 1), .int (W * 1), .int (W * 1), .int (W * 2), .int (W * 2), .int (W * 2), .int (W * 3), .int (W * 3), .int (W * 2), .int (W * 2)]], .tup [.tup [.int 2, .int 5], .tup []], .tup [.tup [.int 2, .int 5], .tup [.int 1, .int (W * 1), .int (W * 1), .int (W * 1), .int (W * 2), .int (W * 2), .int (W * 2), .int (W * 3), .int (W * 3), .int (W * 2)]], .tup [.tup [.int 2, .int 5], .tup [.bool false, .int (W * 1), .int (W * 1), .int (W * 1), .int (W * 2), .int (W * 2), .int (W * 2), .int (W * 3), .int (W * 3), .int (W * 2)]], .tup [.tup [.int 2, .int 5]], .tup [.tup [.int 2, .int 5], .tup [.int (0), .int (W * 1), .int (W * 1), .int (W * 1), .int (W * 2), .int (W * 2), .int (W * 2), .int (W * 3), .int (W * 3), .int (W * 2 + 1)]], .tup [.tup [.int 2, .int 5], .tup [.int (0), .int (W * 1), .int (W * 1), .int (W * 1), .int (W * 2), .int (W * 2), .int (W * 2), .int (W * 3), .int (W * 3), .int (W * 2 - 1)]], .tup [.tup [.int 2, .int 5], .tup [.int (0), .int (W * 1), .int (W * 1), .int (W * 1), .int (W * 2), .int (W * 2), .int (W * 2), .int (W * 3), .int (W * 3), .int (W * 2)], .tup [.int (0), .int (W * 1), .int (W * 1), .int (W * 1), .int (W * 2), .int (W * 2), .int (W * 2), .int (W * 3), .int (W * 3), .int (W * 2)]], .list [.tup [.int 2, .int 5], .tup [.int (0), .int (W * 1), .int (W * 1), .int (W * 1), .int (W * 2), .int (W * 2), .int (W * 2), .int (W * 3), .int (W * 3), .int (W * 2)]], .tup [.tup [.int (0), .int (W * 1), .int (W * 1), .int (W * 1), .int (W * 2), .int (W * 2), .int (W * 2), .int (W * 3), .int (W * 3), .int (W * 2)], .tup [.int 2, .int 5]], .tup [.tup [.int 2, .int 5], .tup [strV (0), strV (W * 1), strV (W * 1), strV (W * 1), strV (W * 2), strV (W * 2), strV (W * 2), strV (W * 3), strV (W * 3), strV (W * 2)]], .tup [.tup [.int 2, .int 5], .tup [.int (0), .int (W * 1 + 1), .int (W * 1), .int (W * 1), .int (W * 2), .int (W * 2), .int (W * 2), .int (W * 3), .int (W * 3), .int (W * 2)]], .tup [.tup [.bool true, .int 5], .tup [.int (0), .int (W * 1), .int (W * 1), .int (W * 1), .int (W * 2), .int (W * 2), .int (W * 2), .int (W * 3), .int (W * 3), .int (W * 2)]]] : List Val) := hx
  simp only [List.mem_cons, List.mem_nil_iff, or_false] at hx
  rcases hx with rfl | rfl | rfl | rfl | rfl | rfl | rfl | rfl | rfl | rfl | rfl | rfl | rfl | rfl | rfl | rfl | rfl | rfl | rfl | rfl | rfl | rfl | rfl | rfl | rfl
  · exact hb_false rfl
  · exact hb_false rfl
  · exact hc_false (by show bco _ _ _ _ _ 0 [6, 9] ≠ W * 2; simp only [bco, lc0, Nat.reduceLT, Nat.reduceLeDiff, if_true, if_false, Nat.lt_irrefl]; omega)
  · exact hc_false (by show bco _ _ _ _ _ 0 [3, 9] ≠ W * 2; simp only [bco, lc0, Nat.reduceLT, Nat.reduceLeDiff, if_true, if_false, Nat.lt_irrefl]; omega)
  · exact hc_false (by show bco _ _ _ _ _ 0 [1, 3, 6, 9] ≠ W * 2; simp only [bco, lc0, Nat.reduceLT, Nat.reduceLeDiff, if_true, if_false, Nat.lt_irrefl]; omega)
  · exact hb_false rfl
  · exact hb_false rfl
  · exact hb_false rfl
  · exact hb_false rfl
  · exact hw_false rfl
  · exact hw_false rfl
  · exact hw_false rfl
  · exact hw_false rfl
  · exact hw_false rfl
  · exact hw_false rfl
  · exact hw_false rfl
  · exact rfl
  · exact hw_false (hw_any 9 6 (by decide) (by rw [scanI_len]; simp) (by decide) (by show W * 2 + 1 > W * 2 + lcost _ _ _ _ _ 6 9; simp only [lc0, Nat.reduceLT, Nat.reduceLeDiff, if_true, if_false, Nat.lt_irrefl]; omega))
  · exact hc_false (by show bco _ _ _ _ _ 0 [3, 6, 9] ≠ W * 2 - 1; simp only [bco, lc0, Nat.reduceLT, Nat.reduceLeDiff, if_true, if_false, Nat.lt_irrefl]; omega)
  · exact rfl
  · exact rfl
  · exact hb_false (by unfold breaksB; rw [Bool.and_eq_false_iff]; right; show (decide (0 < W * 1) && (decide (W * 1 < W * 1) && _)) = false; simp)
  · exact hw_false rfl
  · exact hw_false (hw_any 1 0 (by decide) (by rw [scanI_len]; simp) (by decide) (by show W * 1 + 1 > 0 + lcost _ _ _ _ _ 0 1; simp only [lc0, Nat.reduceLT, Nat.reduceLeDiff, if_true, if_false, Nat.lt_irrefl]; omega))
  · exact hb_false rfl
theorem right_33 {L W C : Int} (l1 : 1 ≤ L) (l2 : L ≤ 20) (w1 : 1 ≤ W) (w2 : W ≤ 50) : bco (scanI 0 (List.replicate 9 L)) (List.replicate (9 - 1) W) C C (C + 3 * (L + 1) - 1) 0 (stopsOf (scanI 0 (List.replicate 9 L)) [2, 5]) = W * 2 := by
  show bco _ _ _ _ _ 0 [3, 6, 9] = W * 2
  simp only [bco, lc0, Nat.reduceLT, Nat.reduceLeDiff, if_true, if_false, Nat.lt_irrefl]
  omega
theorem less_33 {L W C : Int} (l1 : 1 ≤ L) (l2 : L ≤ 20) (w1 : 1 ≤ W) (w2 : W ≤ 50) : bco (scanI 0 (List.replicate 9 L)) (List.replicate (9 - 1) W) C C (C + 3 * (L + 1) - 1 - 1) 0 (stopsOf (scanI 0 (List.replicate 9 L)) [2, 5]) ≠ W * 2 := by
  show bco _ _ _ _ _ 0 [3, 6, 9] ≠ W * 2
  simp only [bco, lc1, Nat.reduceLT, Nat.reduceLeDiff, if_true, if_false, Nat.lt_irrefl]
  omega
theorem wrong_34 {L W C : Int} (l1 : 1 ≤ L) (l2 : L ≤ 20) (w1 : 1 ≤ W) (w2 : W ≤ 50) : ∀ x ∈ wrongV 12 [2, 5, 8] [0, W * 1, W * 1, W * 1, W * 2, W * 2, W * 2, W * 3, W * 3, W * 3, W * 4, W * 4, W * 3], holdsB (List.replicate 12 L) (List.replicate (12 - 1) W) C C (C + 3 * (L + 1) - 1) x = false := by
  intro x hx
  have hx : x ∈ ([.tup [.tup [.int 8, .int 5, .int 2], .tup [.int (0), .int (W * 1), .int (W * 1), .int (W * 1), .int (W * 2), .int (W * 2), .int (W * 2), .int (W * 3), .int (W * 3), .int (W * 3), .int (W * 4), .int (W * 4), .int (W * 3)]], .tup [.tup [.int 2, .int 2, .int 5, .int 8], .tup [.int (0), .int (W * 1), .int (W * 1), .int (W * 1), .int (W * 2), .int (W * 2), .int (W * 2), .int (W * 3), .int (W * 3), .int (W * 3), .int (W * 4), .int (W * 4), .int (W * 3)]], .tup [.tup [.int 5, .int 8], .tup [.int (0), .int (W * 1), .int (W * 1), .int (W * 1), .int (W * 2), .int (W * 2), .int (W * 2), .int (W * 3), .int (W * 3), .int (W * 3), .int (W * 4), .int (W * 4), .int (W * 3)]], .tup [.tup [.int 2, .int 5], .tup [.int (0), .int (W * 1), .int (W * 1), .int (W * 1), .int (W * 2), .int (W * 2), .int (W * 2), .int (W * 3), .int (W * 3), .int (W * 3), .int (W * 4), .int (W * 4), .int (W * 3)]], .tup [.tup [.int 0, .int 2, .int 5, .int 8], .tup [.int (0), .int (W * 1), .int (W * 1), .int (W * 1), .int (W * 2), .int (W * 2), .int (W * 2), .int (W * 3), .int (W * 3), .int (W * 3), .int (W * 4), .int (W * 4), .int (W * 3)]], .tup [.tup [.int 2, .int 5, .int 8, .int 11], .tup [.int (0), .int (W * 1), .int (W * 1), .int (W * 1), .int (W * 2), .int (W * 2), .int (W * 2), .int (W * 3), .int (W * 3), .int (W * 3), .int (W * 4), .int (W * 4), .int (W * 3)]], .tup [.tup [.int (-1), .int 2, .int 5, .int 8], .tup [.int (0), .int (W * 1), .int (W * 1), .int (W * 1), .int (W * 2), .int (W * 2), .int (W * 2), .int (W * 3), .int (W * 3), .int (W * 3), .int (W * 4), .int (W * 4), .int (W * 3)]], .tup [.tup [.int 2, .int 5, .int 8, .int 12], .tup [.int (0), .int (W * 1), .int (W * 1), .int (W * 1), .int (W * 2), .int (W * 2), .int (W * 2), .int (W * 3), .int (W * 3), .int (W * 3), .int (W * 4), .int (W * 4), .int (W * 3)]], .tup [.list [.int 2, .int 5, .int 8], .tup [.int (0), .int (W * 1), .int (W * 1), .int (W * 1), .int (W * 2), .int (W * 2), .int (W * 2), .int (W * 3), .int (W * 3), .int (W * 3), .int (W * 4), .int (W * 4), .int (W * 3)]], .tup [.tup [.int 2, .int 5, .int 8], .list [.int (0), .int (W * 1), .int (W * 1), .int (W * 1), .int (W * 2), .int (W * 2), .int (W * 2), .int (W * 3), .int (W * 3), .int (W * 3), .int (W * 4), .int (W * 4), .int (W * 3)]], .tup [.tup [.int 2, .int 5, .int 8], .tup [.int (W * 1), .int (W * 1), .int (W * 1), .int (W * 2), .int (W * 2), .int (W * 2), .int (W * 3), .int (W * 3), .int (W * 3), .int (W * 4), .int (W * 4), .int (W * 3)]], .tup [.tup [.int 2, .int 5, .int 8], .tup [.int (0), .int (W * 1), .int (W * 1), .int (W * 1), .int (W * 2), .int (W * 2), .int (W * 2), .int (W * 3), .int (W * 3), .int (W * 3), .int (W * 4), .int (W * 4)]], .tup [.tup [.int 2, .int 5, .int 8], .tup [.int (0), .int (W * 1), .int (W * 1), .int (W * 1), .int (W * 2), .int (W * 2), .int (W * 2), .int (W * 3), .int (W * 3), .int (W * 3), .int (W * 4), .int (W * 4), .int (W * 3), .int (W * 3)]], .tup [.tup [.int 2, .int 5, .int 8], .tup []], .tup [.tup [.int 2, .int 5, .int 8], .tup [.int 1, .int (W * 1), .int (W * 1), .int (W * 1), .int (W * 2), .int (W * 2), .int (W * 2), .int (W * 3), .int (W * 3), .int (W * 3), .int (W * 4), .int (W * 4), .int (W * 3)]], .tup [.tup [.int 2, .int 5, .int 8], .tup [.bool false, .int (W * 1), .int (W * 1), .int (W * 1), .int (W * 2), .int (W * 2), .int (W * 2), .int (W * 3), .int (W * 3), .int (W * 3), .int (W * 4), .int (W * 4), .int (W * 3)]], .tup [.tup [.int 2, .int 5, .int 8]], .tup [.tup [.int 2, .int 5, .int 8], .tup [.int (0), .int (W * 1), .int (W * 1), .int (W * 1), .int (W * 2), .int (W * 2), .int (W * 2), .int (W * 3), .int (W * 3), .int (W * 3), .int (W * 4), .int (W * 4), .int (W * 3 + 1)]], .tup [.tup [.int 2, .int 5, .int 8], .tup [.int (0), .int (W * 1), .int (W * 1), .int (W * 1), .int (W * 2), .int (W * 2), .int (W * 2), .int (W * 3), .int (W * 3), .int (W * 3), .int (W * 4), .int (W * 4), .int (W * 3 - 1)]], .tup [.tup [.int 2, .int 5, .int 8], .tup [.int (0), .int (W * 1), .int (W * 1), .int (W * 1), .int (W * 2), .int (W * 2), .int (W * 2), .int (W * 3), .int (W * 3), .int (W * 3), .int (W * 4), .int (W * 4), .int (W * 3)], .tup [.int (0), .int (W * 1), .int (W * 1), .int (W * 1), .int (W * 2), .int (W * 2), .int (W * 2), .int (W * 3), .int (W * 3), .int (W * 3), .int (W * 4), .int (W * 4), .int (W * 3)]], .list [.tup [.int 2, .int 5, .int 8], .tup [.int (0), .int (W * 1), .int (W * 1), .int (W * 1), .int (W * 2), .int (W * 2), .int (W * 2), .int (W * 3), .int (W * 3), .int (W * 3), .int (W * 4), .int (W * 4), .int (W * 3)]], .tup [.tup [.int (0), .int (W * 1), .int (W * 1), .int (W * 1), .int (W * 2), .int (W * 2), .int (W * 2), .int (W * 3), .int (W * 3), .int (W * 3), .int (W * 4), .int (W * 4), .int (W * 3)], .tup [.int 2, .int 5, .int 8]], .tup [.tup [.int 2, .int 5, .int 8], .tup [strV (0), strV (W * 1), strV (W * 1), strV (W * 1), strV (W * 2), strV (W * 2), strV (W * 2), strV (W * 3), strV (W * 3), strV (W * 3), strV (W * 4), strV (W * 4), strV (W * 3)]], .tup [.tup [.int 2, .int 5, .int 8], .tup [.int (0), .int (W * 1 + 1), .int (W * 1), .int (W * 1), .int (W * 2), .int (W * 2), .int (W * 2), .int (W * 3), .int (W * 3), .int (W * 3), .int (W * 4), .int (W * 4), .int (W * 3)]], .tup [.tup [.bool true, .int 5, .int 8], .tup [.int (0), .int (W * 1), .int (W * 1), .int (W * 1), .int (W * 2), .int (W * 2), .int (W * 2), .int (W * 3), .int (W * 3), .int (W * 3), .int (W * 4), .int (W * 4), .int (W * 3)]]] : List Val) := hx
  simp only [List.mem_cons, List.mem_nil_iff, or_false] at hx
  rcases hx with rfl | rfl | rfl | rfl | rfl | rfl | rfl | rfl | rfl | rfl | rfl | rfl | rfl | rfl | rfl | rfl | rfl | rfl | rfl | rfl | rfl | rfl | rfl | rfl | rfl
  · exact hb_false rfl
  · exact hb_false rfl
  · exact hc_false (by show bco _ _ _ _ _ 0 [6, 9, 12] ≠ W * 3; simp only [bco, lc0, Nat.reduceLT, Nat.reduceLeDiff, if_true, if_false, Nat.lt_irrefl]; omega)
  · exact hc_false (by show bco _ _ _ _ _ 0 [3, 6, 12] ≠ W * 3; simp only [bco, lc0, Nat.reduceLT, Nat.reduceLeDiff, if_true, if_false, Nat.lt_irrefl]; omega)
  · exact hc_false (by show bco _ _ _ _ _ 0 [1, 3, 6, 9, 12] ≠ W * 3; simp only [bco, lc0, Nat.reduceLT, Nat.reduceLeDiff, if_true, if_false, Nat.lt_irrefl]; omega)
  · exact hb_false rfl
  · exact hb_false rfl
  · exact hb_false rfl
  · exact hb_false rfl
  · exact hw_false rfl
  · exact hw_false rfl
  · exact hw_false rfl
  · exact hw_false rfl
  · exact hw_false rfl
  · exact hw_false rfl
  · exact hw_false rfl
  · exact rfl
  · exact hw_false (hw_any 12 9 (by decide) (by rw [scanI_len]; simp) (by decide) (by show W * 3 + 1 > W * 3 + lcost _ _ _ _ _ 9 12; simp only [lc0, Nat.reduceLT, Nat.reduceLeDiff, if_true, if_false, Nat.lt_irrefl]; omega))
  · exact hc_false (by show bco _ _ _ _ _ 0 [3, 6, 9, 12] ≠ W * 3 - 1; simp only [bco, lc0, Nat.reduceLT, Nat.reduceLeDiff, if_true, if_false, Nat.lt_irrefl]; omega)
  · exact rfl
  · exact rfl
  · exact hb_false (by unfold breaksB; rw [Bool.and_eq_false_iff]; right; show (decide (0 < W * 1) && (decide (W * 1 < W * 1) && _)) = false; simp)
  · exact hw_false rfl
  · exact hw_false (hw_any 1 0 (by decide) (by rw [scanI_len]; simp) (by decide) (by show W * 1 + 1 > 0 + lcost _ _ _ _ _ 0 1; simp only [lc0, Nat.reduceLT, Nat.reduceLeDiff, if_true, if_false, Nat.lt_irrefl]; omega))
  · exact hb_false rfl
theorem right_34 {L W C : Int} (l1 : 1 ≤ L) (l2 : L ≤ 20) (w1 : 1 ≤ W) (w2 : W ≤ 50) : bco (scanI 0 (List.replicate 12 L)) (List.replicate (12 - 1) W) C C (C + 3 * (L + 1) - 1) 0 (stopsOf (scanI 0 (List.replicate 12 L)) [2, 5, 8]) = W * 3 := by
  show bco _ _ _ _ _ 0 [3, 6, 9, 12] = W * 3
  simp only [bco, lc0, Nat.reduceLT, Nat.reduceLeDiff, if_true, if_false, Nat.lt_irrefl]
  omega
theorem less_34 {L W C : Int} (l1 : 1 ≤ L) (l2 : L ≤ 20) (w1 : 1 ≤ W) (w2 : W ≤ 50) : bco (scanI 0 (List.replicate 12 L)) (List.replicate (12 - 1) W) C C (C + 3 * (L + 1) - 1 - 1) 0 (stopsOf (scanI 0 (List.replicate 12 L)) [2, 5, 8]) ≠ W * 3 := by
  show bco _ _ _ _ _ 0 [3, 6, 9, 12] ≠ W * 3
  simp only [bco, lc1, Nat.reduceLT, Nat.reduceLeDiff, if_true, if_false, Nat.lt_irrefl]
  omega
theorem wrong_35 {L W C : Int} (l1 : 1 ≤ L) (l2 : L ≤ 20) (w1 : 1 ≤ W) (w2 : W ≤ 50) : ∀ x ∈ wrongV 15 [2, 5, 8, 11] [0, W * 1, W * 1, W * 1, W * 2, W * 2, W * 2, W * 3, W * 3, W * 3, W * 4, W * 4, W * 4, W * 5, W * 5, W * 4], holdsB (List.replicate 15 L) (List.replicate (15 - 1) W) C C (C + 3 * (L + 1) - 1) x = false := by
  intro x hx
  have hx : x ∈ ([.tup [.tup [.int 11, .int 8, .int 5, .int 2], .tup [.int (0), .int (W * 1), .int (W * 1), .int (W * 1), .int (W * 2), .int (W * 2), .int (W * 2), .int (W * 3), .int (W * 3), .int (W * 3), .int (W * 4), .int (W * 4), .int (W * 4), .int (W * 5), .int (W * 5), .int (W * 4)]], .tup [.tup [.int 2, .int 2, .int 5, .int 8, .int 11], .tup [.int (0), .int (W * 1), .int (W * 1), .int (W * 1), .int (W * 2), .int (W * 2), .int (W * 2), .int (W * 3), .int (W * 3), .int (W * 3), .int (W * 4), .int (W * 4), .int (W * 4), .int (W * 5), .int (W * 5), .int (W * 4)]], .tup [.tup [.int 5, .int 8, .int 11], .tup [.int (0), .int (W * 1), .int (W * 1), .int (W * 1), .int (W * 2), .int (W * 2), .int (W * 2), .int (W * 3), .int (W * 3), .int (W * 3), .int (W * 4), .int (W * 4), .int (W * 4), .int (W * 5), .int (W * 5), .int (W * 4)]], .tup [.tup [.int 2, .int 5, .int 8], .tup [.int (0), .int (W * 1), .int (W * 1), .int (W * 1), .int (W * 2), .int (W * 2), .int (W * 2), .int (W * 3), .int (W * 3), .int (W * 3), .int (W * 4), .int (W * 4), .int (W * 4), .int (W * 5), .int (W * 5), .int (W * 4)]], .tup [.tup [.int 0, .int 2, .int 5, .int 8, .int 11], .tup [.int (0), .int (W * 1), .int (W * 1), .int (W * 1), .int (W * 2), .int (W * 2), .int (W * 2), .int (W * 3), .int (W * 3), .int (W * 3), .int (W * 4), .int (W * 4), .int (W * 4), .int (W * 5), .int (W * 5), .int (W * 4)]], .tup [.tup [.int 2, .int 5, .int 8, .int 11, .int 14], .tup [.int (0), .int (W * 1), .int (W * 1), .int (W * 1), .int (W * 2), .int (W * 2), .int (W * 2), .int (W * 3), .int (W * 3), .int (W * 3), .int (W * 4), .int (W * 4), .int (W * 4), .int (W * 5), .int (W * 5), .int (W * 4)]], .tup [.tup [.int (-1), .int 2, .int 5, .int 8, .int 11], .tup [.int (0), .int (W * 1), .int (W * 1), .int (W * 1), .int (W * 2), .int (W * 2), .int (W * 2), .int (W * 3), .int (W * 3), .int (W * 3), .int (W * 4), .int (W * 4), .int (W * 4), .int (W * 5), .int (W * 5), .int (W * 4)]], .tup [.tup [.int 2, .int 5, .int 8, .int 11, .int 15], .tup [.int (0), .int (W * 1), .int (W * 1), .int (W * 1), .int (W * 2), .int (W * 2), .int (W * 2), .int (W * 3), .int (W * 3), .int (W * 3), .int (W * 4), .int (W * 4), .int (W * 4), .int (W * 5), .int (W * 5), .int (W * 4)]], .tup [.list [.int 2, .int 5, .int 8, .int 11], .tup [.int (0), .int (W * 1), .int (W * 1), .int (W * 1), .int (W * 2), .int (W * 2), .int (W * 2), .int (W * 3), .int (W * 3), .int (W * 3), .int (W * 4), .int (W * 4), .int (W * 4), .int (W * 5), .int (W * 5), .int (W * 4)]], .tup [.tup [.int 2, .int 5, .int 8, .int 11], .list [.int (0), .int (W * 1), .int (W * 1), .int (W * 1), .int (W * 2), .int (W * 2), .int (W * 2), .int (W * 3), .int (W * 3), .int (W * 3), .int (W * 4), .int (W * 4), .int (W * 4), .int (W * 5), .int (W * 5), .int (W * 4)]], .tup [.tup [.int 2, .int 5, .int 8, .int 11], .tup [.int (W * 1), .int (W * 1), .int (W * 1), .int (W * 2), .int (W * 2), .int (W * 2), .int (W * 3), .int (W * 3), .int (W * 3), .int (W * 4), .int (W * 4), .int (W * 4), .int (W * 5), .int (W * 5), .int (W * 4)]], .tup [.tup [.int 2, .int 5, .int 8, .int 11], .tup [.int (0), .int (W * 1), .int (W * 1), .int (W * 1), .int (W * 2), .int (W * 2), .int (W * 2), .int (W * 3), .int (W * 3), .int (W * 3), .int (W * 4), .int (W * 4), .int (W * 4), .int (W * 5), .int (W * 5)]], .tup [.tup [.int 2, .int 5, .int 8, .int 11], .tup [.int (0), .int (W * 1), .int (W * 1), .int (W * 1), .int (W * 2), .int (W * 2), .int (W * 2), .int (W * 3), .int (W * 3), .int (W * 3), .int (W * 4), .int (W * 4), .int (W * 4), .int (W * 5), .int (W * 5), .int (W * 4), .int (W * 4)]], .tup [.tup [.int 2, .int 5, .int 8, .int 11], .tup []], .tup [.tup [.int 2, .int 5, .int 8, .int 11], .tup [.int 1, .int (W * 1), .int (W * 1), .int (W * 1), .int (W * 2), .int (W * 2), .int (W * 2), .int (W * 3), .int (W * 3), .int (W * 3), .int (W * 4), .int (W * 4), .int (W * 4), .int (W * 5), .int (W * 5), .int (W * 4)]], .tup [.tup [.int 2, .int 5, .int 8, .int 11], .tup [.bool false, .int (W * 1), .int (W * 1), .int (W * 1), .int (W * 2), .int (W * 2), .int (W * 2), .int (W * 3), .int (W * 3), .int (W * 3), .int (W * 4), .int (W * 4), .int (W * 4), .int (W * 5), .int (W * 5), .int (W * 4)]], .tup [.tup [.int 2, .int 5, .int 8, .int 11]], .tup [.tup [.int 2, .int 5, .int 8, .int 11], .tup [.int (0), .int (W * 1), .int (W * 1), .int (W * 1), .int (W * 2), .int (W * 2), .int (W * 2), .int (W * 3), .int (W * 3), .int (W * 3), .int (W * 4), .int (W * 4), .int (W * 4), .int (W * 5), .int (W * 5), .int (W * 4 + 1)]], .tup [.tup [.int 2, .int 5, .int 8, .int 11], .tup [.int (0), .int (W * 1), .int (W * 1), .int (W * 1), .int (W * 2), .int (W * 2), .int (W * 2), .int (W * 3), .int (W * 3), .int (W * 3), .int (W * 4), .int (W * 4), .int (W * 4), .int (W * 5), .int (W * 5), .int (W * 4 - 1)]], .tup [.tup [.int 2, .int 5, .int 8, .int 11], .tup [.int (0), .int (W * 1), .int (W * 1), .int (W * 1), .int (W * 2), .int (W * 2), .int (W * 2), .int (W * 3), .int (W * 3), .int (W * 3), .int (W * 4), .int (W * 4), .int (W * 4), .int (W * 5), .int (W * 5), .int (W * 4)], .tup [.int (0), .int (W * 1), .int (W * 1), .int (W * 1), .int (W * 2), .int (W * 2), .int (W * 2), .int (W * 3), .int (W * 3), .int (W * 3), .int (W * 4), .int (W * 4), .int (W * 4), .int (W * 5), .int (W * 5), .int (W * 4)]], .list [.tup [.int 2, .int 5, .int 8, .int 11], .tup [.int (0), .int (W * 1), .int (W * 1), .int (W * 1), .int (W * 2), .int (W * 2), .int (W * 2), .int (W * 3), .int (W * 3), .int (W * 3), .int (W * 4), .int (W * 4), .int (W * 4), .int (W * 5), .int (W * 5), .int (W * 4)]], .tup [.tup [.int (0), .int (W * 1), .int (W * 1), .int (W * 1), .int (W * 2), .int (W * 2), .int (W * 2), .int (W * 3), .int (W * 3), .int (W * 3), .int (W * 4), .int (W * 4), .int (W * 4), .int (W * 5), .int (W * 5), .int (W * 4)], .tup [.int 2, .int 5, .int 8, .int 11]], .tup [.tup [.int 2, .int 5, .int 8, .int 11], .tup [strV (0), strV (W * 1), strV (W * 1), strV (W * 1), strV (W * 2), strV (W * 2), strV (W * 2), strV (W * 3), strV (W * 3), strV (W * 3), strV (W * 4), strV (W * 4), strV (W * 4), strV (W * 5), strV (W * 5), strV (W * 4)]], .tup [.tup [.int 2, .int 5, .int 8, .int 11], .tup [.int (0), .int (W * 1 + 1), .int (W * 1), .int (W * 1), .int (W * 2), .int (W * 2), .int (W * 2), .int (W * 3), .int (W * 3), .int (W * 3), .int (W * 4), .int (W * 4), .int (W * 4), .int (W * 5), .int (W * 5), .int (W * 4)]], .tup [.tup [.bool true, .int 5, .int 8, .int 11], .tup [.int (0), .int (W * 1), .int (W * 1), .int (W * 1), .int (W * 2), .int (W * 2), .int (W * 2), .int (W * 3), .int (W * 3), .int (W * 3), .int (W * 4), .int (W * 4), .int (W * 4), .int (W * 5), .int (W * 5), .int (W * 4)]]] : List Val) := hx
  simp only [List.mem_cons, List.mem_nil_iff, or_false] at hx
  rcases hx with rfl | rfl | rfl | rfl | rfl | rfl | rfl | rfl | rfl | rfl | rfl | rfl | rfl | rfl | rfl | rfl | rfl | rfl | rfl | rfl | rfl | rfl | rfl | rfl | rfl
  · exact hb_false rfl
  · exact hb_false rfl
  · exact hc_false (by show bco _ _ _ _ _ 0 [6, 9, 12, 15] ≠ W * 4; simp only [bco, lc0, Nat.reduceLT, Nat.reduceLeDiff, if_true, if_false, Nat.lt_irrefl]; omega)
  · exact hc_false (by show bco _ _ _ _ _ 0 [3, 6, 9, 15] ≠ W * 4; simp only [bco, lc0, Nat.reduceLT, Nat.reduceLeDiff, if_true, if_false, Nat.lt_irrefl]; omega)
  · exact hc_false (by show bco _ _ _ _ _ 0 [1, 3, 6, 9, 12, 15] ≠ W * 4; simp only [bco, lc0, Nat.reduceLT, Nat.reduceLeDiff, if_true, if_false, Nat.lt_irrefl]; omega)
  · exact hb_false rfl
  · exact hb_false rfl
  · exact hb_false rfl
  · exact hb_false rfl
  · exact hw_false rfl
  · exact hw_false rfl
  · exact hw_false rfl
  · exact hw_false rfl
  · exact hw_false rfl
  · exact hw_false rfl
  · exact hw_false rfl
  · exact rfl
  · exact hw_false (hw_any 15 12 (by decide) (by rw [scanI_len]; simp) (by decide) (by show W * 4 + 1 > W * 4 + lcost _ _ _ _ _ 12 15; simp only [lc0, Nat.reduceLT, Nat.reduceLeDiff, if_true, if_false, Nat.lt_irrefl]; omega))
  · exact hc_false (by show bco _ _ _ _ _ 0 [3, 6, 9, 12, 15] ≠ W * 4 - 1; simp only [bco, lc0, Nat.reduceLT, Nat.reduceLeDiff, if_true, if_false, Nat.lt_irrefl]; omega)
  · exact rfl
  · exact rfl
  · exact hb_false (by unfold breaksB; rw [Bool.and_eq_false_iff]; right; show (decide (0 < W * 1) && (decide (W * 1 < W * 1) && _)) = false; simp)
  · exact hw_false rfl
  · exact hw_false (hw_any 1 0 (by decide) (by rw [scanI_len]; simp) (by decide) (by show W * 1 + 1 > 0 + lcost _ _ _ _ _ 0 1; simp only [lc0, Nat.reduceLT, Nat.reduceLeDiff, if_true, if_false, Nat.lt_irrefl]; omega))
  · exact hb_false rfl
theorem right_35 {L W C : Int} (l1 : 1 ≤ L) (l2 : L ≤ 20) (w1 : 1 ≤ W) (w2 : W ≤ 50) : bco (scanI 0 (List.replicate 15 L)) (List.replicate (15 - 1) W) C C (C + 3 * (L + 1) - 1) 0 (stopsOf (scanI 0 (List.replicate 15 L)) [2, 5, 8, 11]) = W * 4 := by
  show bco _ _ _ _ _ 0 [3, 6, 9, 12, 15] = W * 4
  simp only [bco, lc0, Nat.reduceLT, Nat.reduceLeDiff, if_true, if_false, Nat.lt_irrefl]
  omega
theorem less_35 {L W C : Int} (l1 : 1 ≤ L) (l2 : L ≤ 20) (w1 : 1 ≤ W) (w2 : W ≤ 50) : bco (scanI 0 (List.replicate 15 L)) (List.replicate (15 - 1) W) C C (C + 3 * (L + 1) - 1 - 1) 0 (stopsOf (scanI 0 (List.replicate 15 L)) [2, 5, 8, 11]) ≠ W * 4 := by
  show bco _ _ _ _ _ 0 [3, 6, 9, 12, 15] ≠ W * 4
  simp only [bco, lc1, Nat.reduceLT, Nat.reduceLeDiff, if_true, if_false, Nat.lt_irrefl]
  omega
end M
namespace M
open PySem
local macro_rules | `(tactic| decreasing_trivial) => `(tactic| try simp only [wp_bind, wp_ok, bind_ok, e_lit, e_var, e_prim, e_and, e_or, e_not, e_ite, e_chain, e_call, e_comp, e_frz, e_meth, es_nil, es_cons, c_nil, c_cons, i_val, i_range, i_enum, i_zip, s_asg, s_par, s_asg2, setsTg, s_aug, s_expr, s_ite, s_wh, s_for, s_ret, s_brk, t_ev, st_nil, st_cons, st_name, st_tup, st_ix,
  List.getElem?_cons_zero, List.getElem?_cons_succ, List.set_cons_zero, List.set_cons_succ, List.map_cons, List.map_nil, List.cons_append, List.nil_append, List.append_nil, List.replicate_succ, List.replicate_zero, selV, Option.map_some,
  p_add_int, p_add_str, p_add_tup, p_add_list, p_sub, p_neg, p_eq_int, p_ne_int, p_eq_str, p_ne_str, p_lt, p_gt, p_le, p_ge, p_isNone, p_isNotNone, p_isTrue, p_isFalse, p_isNotTrue, p_isNotFalse, p_mem_sign, p_notmem_sign, p_ix_str, p_ix_list, p_ix_tup, optV_some, p_sl11, p_sl10, p_sl01, p_sl00, sl_str, sl_list, sl_tup, p_rev_str, p_rev_list, p_rev_tup, p_tup, p_list, p_len_str, p_len_list, p_len_tup, p_min2, p_max2, p_int_bool, p_int_int, p_bool, p_str_str, p_ord, p_listOf_list, p_listOf_tup, p_tupOf_list, p_tupOf_tup, truth_bool, truth_int, truth_str, truth_list, truth_tup, if_tt, if_ff, if_true, if_false, it_list, it_tup, it_str,
  okList_ok, okTup_ok, SL_val, List.length_cons, List.length_nil, Nat.reduceAdd, Nat.reduceLeDiff, Nat.zero_add, killL, List.foldl_cons, List.foldl_nil, setTg])
local macro_rules | `(tactic| get_elem_tactic_trivial) => `(tactic| exact pr_ret rfl)
theorem holds44 {k : Nat} {ls W : List Int} {a b w : Int} {v : Val} {h : Heap} (h1 : 1 ≤ ls.length) (h2 : ls.length ≤ 100000) (hW : ls.length ≤ W.length + 1) (g : Gd 1000000 v) :
    callN G (k + 3) 6 [.tup (ls.map .int), .tup (W.map .int), v, .int a, .int b, .int w] h = .ok (.bool (holdsB ls W a b w v)) h :=
  holds_ok (ib := 10) (iw := 12) (ic := 8) (is := 7) (ia := 11) (il := 9) rfl rfl rfl rfl rfl rfl rfl h1 h2 hW g.a g.l
theorem mul_tup1 {x : Val} {n : Int} {h : Heap} (h1 : 2 ≤ n) (h2 : n ≤ 1000) : evP .mul [.tup [x], .int n] h = .ok (.tup (List.replicate n.toNat x)) h := by
  show (if ([x] : List Val).isEmpty = false ∧ 2 ≤ n ∧ n ≤ 1000 ∧ ([x] : List Val).length ≤ 1000 then Res.ok (Val.tup (List.replicate n.toNat [x]).flatten) h else .stuck) = _
  rw [if_pos ⟨rfl, h1, h2, by simp⟩]
  congr 2
  generalize n.toNat = m
  induction m with
  | zero => rfl
  | succ m ih => rw [List.replicate_succ, List.flatten_cons, ih]; rfl
theorem rep_map (n : Nat) (i : Int) : List.replicate n (Val.int i) = (List.replicate n i).map .int := by
  rw [List.map_replicate]
theorem brks_len {H N : Int} : (brks H N).length = (N - 1).toNat := by unfold brks; rw [List.length_map, rng_len]
theorem rng_mem : ∀ {n : Nat} {lo x : Int}, x ∈ rngI lo n → lo ≤ x ∧ x < lo + n
  | 0, lo, x, h => by cases h
  | n + 1, lo, x, h => by
    rcases List.mem_cons.mp (show x ∈ lo :: rngI (lo + 1) n from h) with rfl | h
    · omega
    · have := rng_mem h
      omega
theorem cases6 {H N : Int} (h : H = 2 ∨ H = 3) (n1 : 3 ≤ N) (n2 : N ≤ 5) : (H = 2 ∧ N = 3) ∨ (H = 2 ∧ N = 4) ∨ (H = 2 ∧ N = 5) ∨ (H = 3 ∧ N = 3) ∨ (H = 3 ∧ N = 4) ∨ (H = 3 ∧ N = 5) := by omega
theorem math44 {L H N W C : Int} (w : Wld L H N W C) :
    holdsB (List.replicate (H * N).toNat L) (List.replicate ((H * N).toNat - 1) W) C C (C + H * (L + 1) - 1) (.tup [tInt (brks H N), tInt (rowW H N W)]) = true ∧
    (∀ x ∈ wrongV (H * N) (brks H N) (rowW H N W), holdsB (List.replicate (H * N).toNat L) (List.replicate ((H * N).toNat - 1) W) C C (C + H * (L + 1) - 1) x = false) ∧
    holdsB (List.replicate (H * N).toNat L) (List.replicate ((H * N).toNat - 1) W) C C (C + H * (L + 1) - 1 - 1) (.tup [tInt (brks H N), tInt (rowW H N W)]) = false := by
  have rw_ := right_worths w
  have l1 := w.l1
  have l2 := w.l2
  have w1 := w.w1
  have w2 := w.w2
  have last := row_get_last (H := H) (N := N) (W := W)
  rcases cases6 w.h w.n1 w.n2 with ⟨rfl, rfl⟩ | ⟨rfl, rfl⟩ | ⟨rfl, rfl⟩ | ⟨rfl, rfl⟩ | ⟨rfl, rfl⟩ | ⟨rfl, rfl⟩
  · exact ⟨h_true rfl rw_ (right_23 l1 l2 w1 w2 |>.trans last.symm), wrong_23 l1 l2 w1 w2, hc_false (fun e => less_23 l1 l2 w1 w2 (e.trans last))⟩
  · exact ⟨h_true rfl rw_ (right_24 l1 l2 w1 w2 |>.trans last.symm), wrong_24 l1 l2 w1 w2, hc_false (fun e => less_24 l1 l2 w1 w2 (e.trans last))⟩
  · exact ⟨h_true rfl rw_ (right_25 l1 l2 w1 w2 |>.trans last.symm), wrong_25 l1 l2 w1 w2, hc_false (fun e => less_25 l1 l2 w1 w2 (e.trans last))⟩
  · exact ⟨h_true rfl rw_ (right_33 l1 l2 w1 w2 |>.trans last.symm), wrong_33 l1 l2 w1 w2, hc_false (fun e => less_33 l1 l2 w1 w2 (e.trans last))⟩
  · exact ⟨h_true rfl rw_ (right_34 l1 l2 w1 w2 |>.trans last.symm), wrong_34 l1 l2 w1 w2, hc_false (fun e => less_34 l1 l2 w1 w2 (e.trans last))⟩
  · exact ⟨h_true rfl rw_ (right_35 l1 l2 w1 w2 |>.trans last.symm), wrong_35 l1 l2 w1 w2, hc_false (fun e => less_35 l1 l2 w1 w2 (e.trans last))⟩
theorem row_small {L H N W C : Int} (w : Wld L H N W C) : (∀ x ∈ rowW H N W, x.natAbs ≤ 100000) ∧ (∀ x ∈ brks H N, x.natAbs ≤ 100000) ∧ (brks H N).length ≤ 10 ∧ 1 ≤ (brks H N).length ∧ (rowW H N W).length = (H * N).toNat + 1 := by
  have hn := hn_bound w
  have w1 := w.w1
  have w2 := w.w2
  have n1 := w.n1
  have n2 := w.n2
  have mulb : ∀ c : Int, 0 ≤ c → c ≤ 100 → (W * c).natAbs ≤ 100000 := fun c c0 c1 => by
    have h1 : W * c ≤ 50 * c := Int.mul_le_mul_of_nonneg_right w2 c0
    have h2 : 0 ≤ W * c := Int.mul_nonneg (by omega) c0
    omega
  refine ⟨fun x hx => ?_, fun x hx => ?_, by rw [brks_len]; omega, by rw [brks_len]; omega, row_len (by omega)⟩
  · unfold rowW at hx
    rcases List.mem_append.mp hx with hx | hx
    · rcases List.mem_append.mp hx with hx | hx
      · rw [List.mem_singleton.mp hx]; decide
      · obtain ⟨k, hk, rfl⟩ := List.mem_map.mp hx
        have := rng_mem hk
        rcases w.h with rfl | rfl
        · exact mulb _ (by omega) (by omega)
        · exact mulb _ (by omega) (by omega)
    · rw [List.mem_singleton.mp hx]
      exact mulb _ (by omega) (by omega)
  · unfold brks at hx
    obtain ⟨k, hk, rfl⟩ := List.mem_map.mp hx
    have := rng_mem hk
    rcases w.h with rfl | rfl <;> omega
theorem law_ok {ns : List Int} (hn : ns.length ≤ 63) : Wp (callN G 41 0 [.scr (ns.map .int)] []) fun v _ => v = .bool true := by
  rw [call_succ rfl]
  refine run_top rfl rfl ?_
  show Wp (evB (callN G 40) b0 [some (.scr (ns.map .int)), none, none, none, none, none, none, none, none, none, none, none, none, none] []) _
  refine wp_seq ?_
  decreasing_trivial
  rw [call_succ (k := 39) (show G 1 = some ⟨1, 2, true, bDeck⟩ from rfl)]
  refine (deck_ok hn).mono fun v h1 ⟨e, hd1⟩ => ?_
  subst e
  decreasing_trivial
  refine wp_seq ?_
  decreasing_trivial
  simp only [range_one (j := 3) (by decide) (by decide), wp_ok, bind_ok]
  refine for_inv (I := fun ls h => (∃ x2 x3 x4 x5 x6 x7 x8 x9 x10 x11 x12 x13, ls = [some (.scr (ns.map .int)), some (.ref 1), x2, x3, x4, x5, x6, x7, x8, x9, x10, x11, x12, x13]) ∧ Dk [] h) (fun _ _ _ => rfl) ⟨⟨_, _, _, _, _, _, _, _, _, _, _, _, rfl⟩, hd1⟩ (fun x hx ls h ⟨⟨x2, x3, x4, x5, x6, x7, x8, x9, x10, x11, x12, x13, e⟩, hd⟩ => ?_) fun ls h ⟨⟨x2, x3, x4, x5, x6, x7, x8, x9, x10, x11, x12, x13, e⟩, hd⟩ => ?_
  · subst e
    decreasing_trivial
    refine wp_seq ?_
    decreasing_trivial
    refine (world_ok (k := 38) hd).mono fun v h2 ⟨⟨L, H, N, W, C, w, e⟩, hd2⟩ => ?_
    subst e
    unfold worldV
    decreasing_trivial
    have hnb := hn_bound w
    obtain ⟨m1, m2, m3⟩ := math44 w
    obtain ⟨s1, s2, s3, s4, s5⟩ := row_small w
    have big : (100000 : Nat) < 2 ^ 1000 := by decide +kernel
    have ll : (List.replicate (H * N).toNat L).length = (H * N).toNat := List.length_replicate
    have lw : (List.replicate ((H * N).toNat - 1) W).length = (H * N).toNat - 1 := List.length_replicate
    have gB : Gd 10033 (tInt (brks H N)) := gd_tup 10 (fun x hx => by
      obtain ⟨i, hi, rfl⟩ := List.mem_map.mp hx
      exact gd_int (Nat.lt_of_le_of_lt (s2 i hi) big)) (by rw [List.length_map]; exact s3)
    have gR : Gd 20063 (tInt (rowW H N W)) := gd_tup 20 (fun x hx => by
      obtain ⟨i, hi, rfl⟩ := List.mem_map.mp hx
      exact gd_int (Nat.lt_of_le_of_lt (s1 i hi) big)) (by rw [List.length_map, s5]; omega)
    have gT : Gd 1000000 (.tup [tInt (brks H N), tInt (rowW H N W)]) := (gd_pr gB gR).mono (by decide)
    have gW := wrong_gd (many := H * N) s3 (by omega) (by omega) s2 s1
    have ew : (((H * N) - 1 : Int)).toNat = (H * N).toNat - 1 := by omega
    refine wp_seq ?_
    decreasing_trivial
    rw [mul_tup1 (by omega) (by omega)]
    decreasing_trivial
    rw [mul_tup1 (by omega) (by omega), ew, rep_map, rep_map]
    decreasing_trivial
    refine wp_seq ?_
    decreasing_trivial
    refine wp_seq ?_
    decreasing_trivial
    have c1 := fun h => holds44 (k := 37) (ls := List.replicate (H * N).toNat L) (W := List.replicate ((H * N).toNat - 1) W) (a := C) (b := C) (w := C + H * (L + 1) - 1) (h := h) (by omega) (by omega) (by omega) gT
    rw [m1] at c1
    unfold tInt at c1
    simp only [c1, wp_ok, bind_ok]
    decreasing_trivial
    simp only [Bool.not_true, if_ff, if_false, b_nil, wp_ok]
    refine wp_seq ?_
    decreasing_trivial
    rw [wrong_ok (k := 38) (by omega) s4 (by omega) (by omega) (by omega) (fun x hx => Nat.lt_of_le_of_lt (s1 x hx) big) (flats_of fun x hx => (gW x hx).f)]
    decreasing_trivial
    refine for_inv (I := fun ls h => (∃ x13, ls = [some (.scr (ns.map .int)), some (.ref 1), some x, some (.int (H * N)), some (.int L), some (.int W), some (.int C), some (.int (C + H * (L + 1) - 1)), some (.tup ((brks H N).map .int)), some (.tup ((rowW H N W).map .int)), some (.tup ((List.replicate (H * N).toNat L).map .int)), some (.tup ((List.replicate ((H * N).toNat - 1) W).map .int)), some (.tup [.tup ((brks H N).map .int), .tup ((rowW H N W).map .int)]), x13]) ∧ h = h2) (fun _ _ _ => rfl) ⟨⟨_, rfl⟩, rfl⟩ (fun y hy ls h ⟨⟨x13, e⟩, eh⟩ => ?_) fun ls h ⟨⟨x13, e⟩, eh⟩ => ?_
    · subst e eh
      have c2 := fun h => holds44 (k := 37) (ls := List.replicate (H * N).toNat L) (W := List.replicate ((H * N).toNat - 1) W) (a := C) (b := C) (w := C + H * (L + 1) - 1) (h := h) (by omega) (by omega) (by omega) (gW y hy)
      rw [m2 y hy] at c2
      decreasing_trivial
      refine wp_one ?_
      decreasing_trivial
      simp only [c2, wp_ok, bind_ok]
      decreasing_trivial
      simp only [if_ff, if_false, b_nil, wp_ok]
      exact ⟨⟨_, rfl⟩, trivial⟩
    · subst e eh
      have c3 := fun h => holds44 (k := 37) (ls := List.replicate (H * N).toNat L) (W := List.replicate ((H * N).toNat - 1) W) (a := C) (b := C) (w := C + H * (L + 1) - 1 - 1) (h := h) (by omega) (by omega) (by omega) gT
      rw [m3] at c3
      unfold tInt at c3
      refine wp_one ?_
      decreasing_trivial
      simp only [c3, wp_ok, bind_ok]
      decreasing_trivial
      simp only [if_ff, if_false, b_nil, wp_ok]
      exact ⟨⟨_, _, _, _, _, _, _, _, _, _, _, _, rfl⟩, hd2⟩
  · subst e
    refine wp_one ?_
    decreasing_trivial
end M
namespace M
open PySem PySem.Spec PyProof.Rows L2
theorem law_says (ns : List Int) (hn : ns.length ≤ 63) : Says (callN G 41 0) ns := by
  have q := law_ok hn
  unfold Says
  cases e : callN G 41 0 [.scr (ns.map Val.int)] [] with
  | ok v h => rw [e] at q; have q : v = .bool true := q; exact ⟨h, by rw [q]⟩
  | exc _ _ => rw [e] at q; exact q.elim
  | stuck => rw [e] at q; exact q.elim
set_option maxHeartbeats 0
abbrev PP : Program := PySem.Challenge.pw_fewbrackets_k44_each_condition_alone
def top (i : Nat) : Stmt := PP.main.body.getD i (.Pass ⟨0, 0, 0, 0⟩)
def d0 : DE := ⟨"law", ["_law_script"], ["_law_script", "_law_deck_here", "_law_turn", "_law_many", "_law_length", "_law_weight", "_law_column", "_law_wide", "_law_breaks", "_law_row", "_law_lengths", "_law_weights", "_law_right", "_law_thing"], ["_law_script", "_law_deck_here", "_law_turn", "_law_many", "_law_length", "_law_weight", "_law_column", "_law_wide", "_law_breaks", "_law_row", "_law_lengths", "_law_weights", "_law_right", "_law_thing"], [], ⟨1, 14, false, b0⟩, defArgs (top 18), defBody (top 18), defScope (top 18)⟩
def e0 : DX := ⟨d0, [], []⟩
theorem bd0 : BindersAt e0 := fun K f fd F => snil
def d1 : DE := ⟨"_law_deck", ["_law_script"], ["_law_script", "_law_cell"], ["_law_script"], [⟨1, [], [.inl 0]⟩], ⟨1, 2, true, b1⟩, defArgs (top 13), defBody (top 13), defScope (top 13)⟩
def e1 : DX := ⟨d1, [], []⟩
theorem bd1 : BindersAt e1 := fun K f fd F => (scons (bnd_full F rfl fun kV doc pm an cdv ct us ws h1 h2 => match us, ws, h1, h2 with | [a0], [], _, _ => ⟨[a0], (.cons rfl .nil), rfl⟩) snil)
def d2 : DE := ⟨"_law_world", ["_law_deck_here"], ["_law_deck_here", "_law_length", "_law_held", "_law_lines", "_law_weight", "_law_column", "_law_many", "_law_breaks", "_law_worths", "_law_wide", "_law_k"], ["_law_deck_here", "_law_length", "_law_held", "_law_lines", "_law_weight", "_law_column", "_law_many", "_law_breaks", "_law_worths", "_law_wide"], [⟨1, [], [.inl 0]⟩], ⟨1, 11, false, b2⟩, defArgs (top 15), defBody (top 15), defScope (top 15)⟩
def e2 : DX := ⟨d2, [], []⟩
theorem bd2 : BindersAt e2 := fun K f fd F => (scons (bnd_full F rfl fun kV doc pm an cdv ct us ws h1 h2 => match us, ws, h1, h2 with | [a0], [], _, _ => ⟨[a0], (.cons rfl .nil), rfl⟩) snil)
def d3 : DE := ⟨"_law_draw", ["_law_deck_here", "_law_most"], ["_law_deck_here", "_law_most", "_law_cell", "_law_number"], ["_law_deck_here", "_law_most", "_law_cell", "_law_number"], [⟨2, [], [.inl 0, .inl 1]⟩], ⟨2, 4, false, b3⟩, defArgs (top 14), defBody (top 14), defScope (top 14)⟩
def e3 : DX := ⟨d3, [], []⟩
theorem bd3 : BindersAt e3 := fun K f fd F => (scons (bnd_full F rfl fun kV doc pm an cdv ct us ws h1 h2 => match us, ws, h1, h2 with | [a0, a1], [], _, _ => ⟨[a0, a1], (.cons rfl (.cons rfl .nil)), rfl⟩) snil)
def d4 : DE := ⟨"_law_wrong", ["_law_many", "_law_breaks", "_law_worths"], ["_law_many", "_law_breaks", "_law_worths", "_law_found", "_law_last", "_law_worth"], ["_law_many", "_law_breaks", "_law_worths", "_law_found", "_law_last"], [⟨3, [], [.inl 0, .inl 1, .inl 2]⟩], ⟨3, 6, false, b4⟩, defArgs (top 17), defBody (top 17), defScope (top 17)⟩
def e4 : DX := ⟨d4, [], []⟩
theorem bd4 : BindersAt e4 := fun K f fd F => (scons (bnd_full F rfl fun kV doc pm an cdv ct us ws h1 h2 => match us, ws, h1, h2 with | [a0, a1, a2], [], _, _ => ⟨[a0, a1, a2], (.cons rfl (.cons rfl (.cons rfl .nil))), rfl⟩) snil)
def d5 : DE := ⟨"_law_put", ["_law_row", "_law_at", "_law_part"], ["_law_row", "_law_at", "_law_part"], ["_law_row", "_law_at", "_law_part"], [⟨3, [], [.inl 0, .inl 1, .inl 2]⟩], ⟨3, 3, false, b5⟩, defArgs (top 16), defBody (top 16), defScope (top 16)⟩
def e5 : DX := ⟨d5, [], []⟩
theorem bd5 : BindersAt e5 := fun K f fd F => (scons (bnd_full F rfl fun kV doc pm an cdv ct us ws h1 h2 => match us, ws, h1, h2 with | [a0, a1, a2], [], _, _ => ⟨[a0, a1, a2], (.cons rfl (.cons rfl (.cons rfl .nil))), rfl⟩) snil)
def d6 : DE := ⟨"least_holds", ["lengths", "weights", "thing", "first", "further", "width"], ["lengths", "weights", "thing", "first", "further", "width", "sums", "frame", "breaks", "worths"], ["lengths", "weights", "thing", "first", "further", "width", "sums", "frame", "breaks", "worths"], [⟨3, ["first", "further", "width"], [.inl 0, .inl 1, .inl 2, .inl 3, .inl 4, .inl 5]⟩], ⟨6, 10, false, b6⟩, defArgs (top 11), defBody (top 11), defScope (top 11)⟩
def e6 : DX := ⟨d6, [], [("first", (.int (0))), ("further", (.int (4))), ("width", (.int (60)))]⟩
theorem bd6 : BindersAt e6 := fun K f fd F => (scons (bnd_full F rfl fun kV doc pm an cdv ct us ws h1 h2 => match us, ws, h1, h2 with | [a0, a1, a2], [z0, z1, z2], _, _ => ⟨[a0, a1, a2, z0, z1, z2], (.cons rfl (.cons rfl (.cons rfl (.cons rfl (.cons rfl (.cons rfl .nil)))))), rfl⟩) snil)
def d7 : DE := ⟨"sums_of", ["lengths"], ["lengths", "found", "length"], ["lengths", "found", "length"], [⟨1, [], [.inl 0]⟩], ⟨1, 3, false, b7⟩, defArgs (top 4), defBody (top 4), defScope (top 4)⟩
def e7 : DX := ⟨d7, [], []⟩
theorem bd7 : BindersAt e7 := fun K f fd F => (scons (bnd_full F rfl fun kV doc pm an cdv ct us ws h1 h2 => match us, ws, h1, h2 with | [a0], [], _, _ => ⟨[a0], (.cons rfl .nil), rfl⟩) snil)
def d8 : DE := ⟨"breaks_cost", ["sums", "weights", "frame", "breaks"], ["sums", "weights", "frame", "breaks", "cost", "start", "stop", "number"], ["sums", "weights", "frame", "breaks", "cost", "start", "stop"], [⟨4, [], [.inl 0, .inl 1, .inl 2, .inl 3]⟩], ⟨4, 8, false, b8⟩, defArgs (top 6), defBody (top 6), defScope (top 6)⟩
def e8 : DX := ⟨d8, [], []⟩
theorem bd8 : BindersAt e8 := fun K f fd F => (scons (bnd_full F rfl fun kV doc pm an cdv ct us ws h1 h2 => match us, ws, h1, h2 with | [a0, a1, a2, a3], [], _, _ => ⟨[a0, a1, a2, a3], (.cons rfl (.cons rfl (.cons rfl (.cons rfl .nil)))), rfl⟩) snil)
def d9 : DE := ⟨"line_cost", ["sums", "weights", "frame", "start", "stop"], ["sums", "weights", "frame", "start", "stop", "first", "further", "wide", "column", "signs", "cost"], ["sums", "weights", "frame", "start", "stop", "first", "further", "wide", "column", "signs", "cost"], [⟨5, [], [.inl 0, .inl 1, .inl 2, .inl 3, .inl 4]⟩], ⟨5, 11, false, b9⟩, defArgs (top 5), defBody (top 5), defScope (top 5)⟩
def e9 : DX := ⟨d9, [], []⟩
theorem bd9 : BindersAt e9 := fun K f fd F => (scons (bnd_full F rfl fun kV doc pm an cdv ct us ws h1 h2 => match us, ws, h1, h2 with | [a0, a1, a2, a3, a4], [], _, _ => ⟨[a0, a1, a2, a3, a4], (.cons rfl (.cons rfl (.cons rfl (.cons rfl (.cons rfl .nil))))), rfl⟩) snil)
def d10 : DE := ⟨"are_breaks", ["many", "thing"], ["many", "thing", "one", "other"], ["many", "thing"], [⟨2, [], [.inl 0, .inl 1]⟩], ⟨2, 4, false, b10⟩, defArgs (top 9), defBody (top 9), defScope (top 9)⟩
def e10 : DX := ⟨d10, [], []⟩
theorem bd10 : BindersAt e10 := fun K f fd F => (scons (bnd_full F rfl fun kV doc pm an cdv ct us ws h1 h2 => match us, ws, h1, h2 with | [a0, a1], [], _, _ => ⟨[a0, a1], (.cons rfl (.cons rfl .nil)), rfl⟩) snil)
def d11 : DE := ⟨"are_numbers", ["thing"], ["thing", "one"], ["thing"], [⟨1, [], [.inl 0]⟩], ⟨1, 2, false, b11⟩, defArgs (top 8), defBody (top 8), defScope (top 8)⟩
def e11 : DX := ⟨d11, [], []⟩
theorem bd11 : BindersAt e11 := fun K f fd F => (scons (bnd_full F rfl fun kV doc pm an cdv ct us ws h1 h2 => match us, ws, h1, h2 with | [a0], [], _, _ => ⟨[a0], (.cons rfl .nil), rfl⟩) snil)
def d12 : DE := ⟨"are_worths", ["sums", "weights", "frame", "thing"], ["sums", "weights", "frame", "thing", "stop", "start"], ["sums", "weights", "frame", "thing", "stop", "start"], [⟨4, [], [.inl 0, .inl 1, .inl 2, .inl 3]⟩], ⟨4, 6, false, b12⟩, defArgs (top 10), defBody (top 10), defScope (top 10)⟩
def e12 : DX := ⟨d12, [], []⟩
theorem bd12 : BindersAt e12 := fun K f fd F => (scons (bnd_full F rfl fun kV doc pm an cdv ct us ws h1 h2 => match us, ws, h1, h2 with | [a0, a1, a2, a3], [], _, _ => ⟨[a0, a1, a2, a3], (.cons rfl (.cons rfl (.cons rfl (.cons rfl .nil)))), rfl⟩) snil)
def es : List DX := [e0, e1, e2, e3, e4, e5, e6, e7, e8, e9, e10, e11, e12]
theorem binders : Binders es := (bcons bd0 (bcons bd1 (bcons bd2 (bcons bd3 (bcons bd4 (bcons bd5 (bcons bd6 (bcons bd7 (bcons bd8 (bcons bd9 (bcons bd10 (bcons bd11 (bcons bd12 bnil)))))))))))))
def gls : List (Str × Val) := [("OVER", (.int 1000))]
def bls : List Str := ["range", "list", "sum", "len", "tuple", "str", "isinstance", "max", "all", "zip", "bool", "int"]
theorem okAll : (es.map DX.d).all (okD (es.map DX.d) gls bls) = true := by decide +kernel
theorem tab_eq : tabOf (es.map DX.d) = G := funext fun i => match i with
  | 0 => rfl
  | 1 => rfl
  | 2 => rfl
  | 3 => rfl
  | 4 => rfl
  | 5 => rfl
  | 6 => rfl
  | 7 => rfl
  | 8 => rfl
  | 9 => rfl
  | 10 => rfl
  | 11 => rfl
  | 12 => rfl
  | _ + 13 => rfl
abbrev R : PySem.W.OpenRow := PySem.W.OpenLaw.row PySem.Challenge.rw_fewbrackets_k44_each_condition_alone
abbrev hk : PySem.W.Hook := hookF 4 es gls bls
def ob (s : PySem.W.SharedT) : He.AlD := obsFG 4 es gls bls (HandSHeadRun.getT s)
theorem ob_eq (s : PySem.W.SharedT) : ob s = hk.obs s.abs := obsFG_eq (HandSHeadRun.getT_eq s)
def loose : List PySem.Str := PP.main.scope.names.filterMap fun q => if q.1 == ("law" : PySem.Str) || q.1 == ("__name__" : PySem.Str) then none else some q.1
theorem run (w : World) : HandSHeadRun.RunEq R (PySem.W.view R.prog [18]) hk ob 6000 loose w := by
  intro os
  kernel_rfl
theorem law_facts (w : World) (mg : Str → Option Value) (fa : Addr) (h : PySem.Heap) (Y : hk.says w h) (GN : h.Ns mainGlobals mg) (hmg : mg ("law" : Str) = some (.ref fa)) (hs : ∀ ns : List Int, ns.length ≤ 63 → Says (callN G 41 0) ns) :
    ∃ (K : PySem.W.Frag) (fd : FuncData) (cl : List Val → Heap → Res Val), K.In h ∧ (∀ (s : Shared) (u : Value), BindsTo s fd ⟨[u], []⟩ [("_law_script", u)]) ∧ (∀ ns : List Int, ns.length ≤ 63 → Says cl ns) ∧
        ∀ base : PySem.Heap, K.In base → base.Ns mainGlobals mg → FnG PP w K mg base 41 fa fd ["_law_script"] cl := by
  obtain ⟨K, X, c⟩ := Y
  rw [← tab_eq] at hs
  obtain ⟨fd, h1, h2⟩ := facts (P := PP) (w := w) (k := 40) (d := e0) (x := "_law_script") okAll binders rfl rfl rfl (fun _ _ _ _ _ _ us hl => match us, hl with | [_], _ => rfl) X GN c hmg
  exact ⟨K, fd, _, X, h1, hs, h2⟩
end M
open PySem PySem.W PySem.Calls PyProof.Rows
theorem PySem.Challenge.cw_fewbrackets_k44_each_condition_alone_holds : PySem.Challenge.rw_fewbrackets_k44_each_condition_alone.Holds := by
  w_on; o_law
  refine HandSHeadRun.head_any (r := OpenLaw.row PySem.Challenge.rw_fewbrackets_k44_each_condition_alone) (q := view (OpenLaw.row PySem.Challenge.rw_fewbrackets_k44_each_condition_alone).prog [18]) (H := M.hk) (ob := M.ob) (M := 6000) (loose := M.loose) (d := HandSHeadRun.topDef (OpenLaw.row PySem.Challenge.rw_fewbrackets_k44_each_condition_alone).prog 18) (kwd := []) M.ob_eq
    (by kernel_rfl) (fun s => by kernel_rfl) M.run (by kernel_rfl) (by kernel_rfl) (by kernel_rfl) (by rfl) (by first | assumption | decide +kernel) (by decide +kernel) ⟨rfl, rfl, rfl, rfl, rfl, by decide +kernel⟩ ?hw ?hc
  case hw => w_witness2
  case hc =>
    refine M.walk_ofG (l := PySem.Challenge.rw_fewbrackets_k44_each_condition_alone) (n := 63) (k := 41) (x := "_law_script") rfl (by decide) (by kernel_rfl) ⟨rfl, by decide, by decide⟩ ?F
    intro w mg fa h Y G hmg0
    have hmg : mg ("law" : PySem.Str) = some (.ref fa) := by
      have e : (HandSHeadRun.topDef (OpenLaw.row PySem.Challenge.rw_fewbrackets_k44_each_condition_alone).prog 18).name = ("law" : PySem.Str) := by kernel_rfl
      rw [← e]
      exact hmg0
    exact M.law_facts w mg fa h Y G hmg fun ns hn => M.law_says ns hn
