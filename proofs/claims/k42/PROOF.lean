import PyProof.Rows.All
import Wide.All
import OpenK.AllK
import Wide.FinOn
import HandS.ForMost
import HandS.ForExc
import HandS.HeadHook1
import KE.LtData
import HandS.TupAny
import HandS.TupMul
import HandS.IsInst
import HandS.StrMore
import HandS.RaiseMore
import HandS.Style
import HandS.Flow
import HandS.Deep
import PyProof.TwoTypesSub
import PyProof.Rows.IntBool
import PyProof.Rows.RuleB_bool
import PyProof.NeKinds
import HandS.Strs
import HandS.More
import HandS.Text
import PyProof.CallStr
import HandS.Replace
import HandS.ReplaceLit
import KE.SortData
import KE.SortKeyHeap
import KE.DataMinMax
import HandS.SortKw
import HandS.Comp
import HandS.Iter
import HandS.Zip
import HandS.Defaults
import HandS.TupSets
import HandS.SetFor
import HandS.DictComp
import KE.KRevSl
import HandS.CallRecv
import HandS.Exc
import PyProof.ToksMono
import HandS.HeadEnd
import HandS.Ends
import KE.KStateDown
import HandS.Words
import HandS.WordsExc
import HandS.Head0
import HandS.Head1
import HandS.Head2
import HandS.HeadHook2
import PySem.Challenge.RW_fewbrackets_k42_least_spoilt
set_option Elab.async false
set_option linter.all false
set_option maxRecDepth 100000
set_option maxHeartbeats 4000000
namespace M
abbrev T := List Nat
/-- values; list, dict, obj: frozen ones; ref: a mutable object, by its number -/
inductive Val where
  | none
  | bool (b : Bool)
  | int (i : Int)
  | str (s : T)
  | tup (xs : List Val)
  | list (xs : List Val)
  | dict (ks vs : List Val)
  | obj (c : Nat) (ns : List T) (vs : List Val)
  | ref (n : Nat)
  | fn (f : Nat)
  | cls (c : Nat)
  | ty (t : Nat)
  | scr (xs : List Val)
  deriving Inhabited
inductive Obj where
  | dead
  | list (xs : List Val)
  | dict (ks vs : List Val)
  | inst (c : T) (ns : List T) (vs : List Val)
abbrev Heap := List Obj
inductive Res (A : Type) where
  | ok (a : A) (h : Heap)
  | exc (e : Val) (h : Heap)
  | stuck
def Res.bind {A B : Type} : Res A → (A → Heap → Res B) → Res B
  | .ok a h, f => f a h
  | .exc e h, _ => .exc e h
  | .stuck, _ => .stuck
def Res.map {A B : Type} (r : Res A) (f : A → B) : Res B := r.bind fun a h => .ok (f a) h
@[simp] theorem bind_ok {A B : Type} (a : A) (h : Heap) (f : A → Heap → Res B) : (Res.ok a h).bind f = f a h := rfl
@[simp] theorem bind_exc {A B : Type} (e : Val) (h : Heap) (f : A → Heap → Res B) : (Res.exc e h : Res A).bind f = .exc e h := rfl
@[simp] theorem bind_stuck {A B : Type} (f : A → Heap → Res B) : (Res.stuck : Res A).bind f = .stuck := rfl
/-! ### data -/
mutual
/-- no reference below n or beyond: all references are below n -/
def Val.lt (n : Nat) : Val → Bool
  | .tup xs => Val.lts n xs
  | .list xs => Val.lts n xs
  | .dict ks vs => Val.lts n ks && Val.lts n vs
  | .obj _ _ vs => Val.lts n vs
  | .ref m => decide (m < n)
  | .scr xs => Val.lts n xs
  | _ => true
def Val.lts (n : Nat) : List Val → Bool
  | [] => true
  | x :: r => Val.lt n x && Val.lts n r
end
mutual
/-- plain data: None, truths, numbers, textsOf, tuples, (frozen) lists -/
def Val.flat : Val → Bool
  | .none => true
  | .bool _ => true
  | .int _ => true
  | .str _ => true
  | .tup xs => Val.flats xs
  | .list xs => Val.flats xs
  | _ => false
def Val.flats : List Val → Bool
  | [] => true
  | x :: r => Val.flat x && Val.flats r
end
mutual
/-- data without lists, but with dicts -/
def Val.tupd : Val → Bool
  | .none => true
  | .bool _ => true
  | .int _ => true
  | .str _ => true
  | .tup xs => Val.tupds xs
  | .dict ks vs => Val.tupds ks && Val.tupds vs && decide (ks.length = vs.length)
  | _ => false
def Val.tupds : List Val → Bool
  | [] => true
  | x :: r => Val.tupd x && Val.tupds r
end
mutual
/-- data: lists, dicts too -/
def Val.dat : Val → Bool
  | .none => true
  | .bool _ => true
  | .int _ => true
  | .str _ => true
  | .tup xs => Val.dats xs
  | .list xs => Val.dats xs
  | .dict ks vs => Val.dats ks && Val.dats vs && decide (ks.length = vs.length)
  | _ => false
def Val.dats : List Val → Bool
  | [] => true
  | x :: r => Val.dat x && Val.dats r
end
mutual
def Val.deep : Val → Nat
  | .tup xs => Val.deeps xs + 1
  | .list xs => Val.deeps xs + 1
  | .dict ks vs => max (Val.deeps ks) (Val.deeps vs) + 1
  | _ => 0
def Val.deeps : List Val → Nat
  | [] => 0
  | x :: r => max (Val.deep x) (Val.deeps r)
end
mutual
/-- Python's == of plain data -/
def eqv : Val → Val → Bool
  | .none, .none => true
  | .bool a, .bool b => a == b
  | .bool a, .int j => (if a then 1 else 0) == j
  | .int i, .bool b => i == (if b then 1 else 0)
  | .int i, .int j => i == j
  | .str x, .str y => x == y
  | .list xs, .list ys => eqvs xs ys
  | .tup xs, .tup ys => eqvs xs ys
  | _, _ => false
def eqvs : List Val → List Val → Bool
  | [], [] => true
  | x :: xs, y :: ys => eqv x y && eqvs xs ys
  | _, _ => false
end
def Obj.lt (n : Nat) : Obj → Bool
  | .dead => true
  | .list xs => Val.lts n xs
  | .dict ks vs => Val.lts n ks && Val.lts n vs
  | .inst _ _ vs => Val.lts n vs


mutual
/-- the very same value -/
def Val.same : Val → Val → Bool
  | .none, .none => true
  | .bool a, .bool b => a == b
  | .int i, .int j => i == j
  | .str x, .str y => x == y
  | .list xs, .list ys => Val.sames xs ys
  | .tup xs, .tup ys => Val.sames xs ys
  | .dict a b, .dict c d => Val.sames a c && Val.sames b d
  | .obj c n v, .obj d m w => c == d && n == m && Val.sames v w
  | .ref a, .ref b => a == b
  | .fn a, .fn b => a == b
  | .cls a, .cls b => a == b
  | .ty a, .ty b => a == b
  | .scr xs, .scr ys => Val.sames xs ys
  | _, _ => false
def Val.sames : List Val → List Val → Bool
  | [], [] => true
  | x :: xs, y :: ys => Val.same x y && Val.sames xs ys
  | _, _ => false
end
mutual
@[simp] theorem same_refl : ∀ v : Val, Val.same v v = true
  | .none => rfl
  | .bool b => by simp [Val.same]
  | .int _ => by simp [Val.same]
  | .str _ => by simp [Val.same]
  | .tup xs => by simp [Val.same, sames_refl xs]
  | .list xs => by simp [Val.same, sames_refl xs]
  | .dict a b => by simp [Val.same, sames_refl a, sames_refl b]
  | .obj c n v => by simp [Val.same, sames_refl v]
  | .ref _ => by simp [Val.same]
  | .fn _ => by simp [Val.same]
  | .cls _ => by simp [Val.same]
  | .ty _ => by simp [Val.same]
  | .scr xs => by simp [Val.same, sames_refl xs]
@[simp] theorem sames_refl : ∀ vs : List Val, Val.sames vs vs = true
  | [] => rfl
  | v :: r => by simp [Val.sames, same_refl v, sames_refl r]
end
mutual
theorem same_eq : ∀ {v w : Val}, Val.same v w = true → v = w
  | .none, w, h => by cases w <;> simp [Val.same] at h <;> rfl
  | .bool b, w, h => by cases w <;> simp [Val.same] at h; rw [h]
  | .int _, w, h => by cases w <;> simp [Val.same] at h; rw [h]
  | .str _, w, h => by cases w <;> simp [Val.same] at h; rw [h]
  | .tup xs, w, h => by cases w <;> simp [Val.same] at h; rw [sames_eq h]
  | .list xs, w, h => by cases w <;> simp [Val.same] at h; rw [sames_eq h]
  | .dict a b, w, h => by cases w <;> simp [Val.same] at h; rw [sames_eq h.1, sames_eq h.2]
  | .obj c n v, w, h => by cases w <;> simp [Val.same] at h; rw [h.1.1, h.1.2, sames_eq h.2]
  | .ref _, w, h => by cases w <;> simp [Val.same] at h; rw [h]
  | .fn _, w, h => by cases w <;> simp [Val.same] at h; rw [h]
  | .cls _, w, h => by cases w <;> simp [Val.same] at h; rw [h]
  | .ty _, w, h => by cases w <;> simp [Val.same] at h; rw [h]
  | .scr xs, w, h => by cases w <;> simp [Val.same] at h; rw [sames_eq h]
theorem sames_eq : ∀ {vs ws : List Val}, Val.sames vs ws = true → vs = ws
  | [], ws, h => by cases ws <;> simp [Val.sames] at h; rfl
  | v :: r, ws, h => by
    cases ws with
    | nil => simp [Val.sames] at h
    | cons w t => simp [Val.sames] at h; rw [same_eq h.1, sames_eq h.2]
end
def Obj.same : Obj → Obj → Bool
  | .dead, .dead => true
  | .list a, .list b => Val.sames a b
  | .dict a b, .dict c d => Val.sames a c && Val.sames b d
  | .inst c n v, .inst d m w => c == d && n == m && Val.sames v w
  | _, _ => false
@[simp] theorem osame_refl (o : Obj) : Obj.same o o = true := by cases o <;> simp [Obj.same]
/-! ### reading -/
def Heap.at (h : Heap) (n : Nat) : Option Obj := h[n]?
/-- what a value is, a mutable object looked up -/
def dr (h : Heap) : Val → Option Val
  | .ref n => match h[n]? with
    | some (.list xs) => some (.list xs)
    | some (.dict ks vs) => some (.dict ks vs)
    | _ => none
  | v => some v
/-- the items of a list or a tuple -/
def seqOf (h : Heap) (v : Val) : Option (List Val) := match dr h v with
  | some (.list xs) => some xs
  | some (.tup xs) => some xs
  | _ => none
/-- the items of a list -/
def lstOf (h : Heap) (v : Val) : Option (List Val) := match dr h v with
  | some (.list xs) => some xs
  | _ => none
def truth (h : Heap) (v : Val) : Option Bool := match dr h v with
  | some .none => some false
  | some (.bool b) => some b
  | some (.int i) => some (decide (i ≠ 0))
  | some (.str s) => some (!s.isEmpty)
  | some (.tup xs) => some (!xs.isEmpty)
  | some (.list xs) => some (!xs.isEmpty)
  | _ => none
def SL : Nat := 16777216
def asc (s : T) : Bool := (s.all fun c => decide (c < 128)) && decide (s.length ≤ SL)
/-! ### primitives -/
inductive P where
  | add | addm | sub | mul | fdiv | mod | pow | neg
  | eq | ne | lt | le | gt | ge | isNone | isNotNone | isTrue | isFalse | isNotTrue | isNotFalse | mem | notmem
  | ix | sl (lo hi : Bool) | rev (m : Bool)
  | tup | list (m : Bool) | dict0 (m : Bool) | dict1 (m : Bool) | dget | din | dnotin | mulm | slm (lo hi : Bool) | sortD | dgetd
  | len | all | any | sum | int | str | repr | ord | listOf (m : Bool) | tupOf | bool
  | min2 | max2 | min1 | max1
  | isi (ts : List Nat)
  | join | upper | replace | count | append | pop | popAt | extend | insert | index | sindex | lenSet
  | minD | minOr | sortL (m : Bool) | sortSet (m : Bool)
  deriving DecidableEq
def okT (s : T) (h : Heap) : Res Val := if s.length ≤ SL then .ok (.str s) h else .stuck
def okTup (xs : List Val) (h : Heap) : Res Val := if xs.length ≤ SL then .ok (.tup xs) h else .stuck
/-- a new list: a mutable one, or a frozen one -/
def okList (m : Bool) (xs : List Val) (h : Heap) : Res Val :=
  if xs.length ≤ SL then (if m then .ok (.ref h.length) (h ++ [.list xs]) else .ok (.list xs) h) else .stuck
/-- (Nat.ble: so that no comparison of a literal with an open number is reckoned one by one) -/
def small (i : Int) : Bool := Nat.ble i.natAbs 18446744073709551615
theorem small_iff {i : Int} : small i = true ↔ -18446744073709551616 < i ∧ i < 18446744073709551616 := by
  unfold small
  rw [Nat.ble_eq]
  omega
def inM (i : Int) : Bool := Nat.ble i.natAbs 999999999
theorem inM_iff {i : Int} : inM i = true ↔ i < 1000000000 ∧ -1000000000 < i := by
  unfold inM
  rw [Nat.ble_eq]
  omega
def bI (b : Bool) : Int := if b = true then 1 else 0
def subV (h : Heap) : Val → Val → Res Val
  | .int i, .int j => .ok (.int (i - j)) h
  | .int i, .bool b => .ok (.int (i - bI b)) h
  | .bool a, .int j => .ok (.int (bI a - j)) h
  | .bool a, .bool b => .ok (.int (bI a - bI b)) h
  | _, _ => .stuck
def addV (h : Heap) : Val → Val → Res Val
  | .int i, .int j => .ok (.int (i + j)) h
  | .int i, .bool b => .ok (.int (i + bI b)) h
  | .bool a, .int j => .ok (.int (bI a + j)) h
  | .bool a, .bool b => .ok (.int (bI a + bI b)) h
  | .str s, .str t => okT (s ++ t) h
  | .tup xs, .tup ys => okTup (xs ++ ys) h
  | a, b => match dr h a, dr h b with
    | some (.list xs), some (.list ys) => okList false (xs ++ ys) h
    | _, _ => .stuck
def addM (h : Heap) (a b : Val) : Res Val := match dr h a, dr h b with
  | some (.list xs), some (.list ys) => okList true (xs ++ ys) h
  | _, _ => .stuck
/-- may it be a dict's key -/
def okKey : Val → Bool
  | .int _ => true
  | .str s => asc s
  | _ => false
def lookD : List Val → List Val → Val → Option Val
  | k :: ks, v :: vs, q => if Val.same k q then some v else lookD ks vs q
  | _, _, _ => none
def hasD (ks : List Val) (q : Val) : Bool := ks.any fun k => Val.same k q
def replD : List Val → List Val → Val → Val → List Val
  | k :: ks, v :: vs, q, w => (if Val.same k q then w else v) :: replD ks vs q w
  | _, _, _, _ => []
def putKs (ks : List Val) (q : Val) : List Val := if hasD ks q then ks else ks ++ [q]
def putVs (ks vs : List Val) (q w : Val) : List Val := if hasD ks q then replD ks vs q w else vs ++ [w]
def dgetV (h : Heap) (d q : Val) : Res Val := match dr h d with
  | some (.dict ks vs) => if okKey q then (match lookD ks vs q with
    | some v => .ok v h
    | none => .stuck) else .stuck
  | _ => .stuck
def isDct (v : Val) (h : Heap) : Bool := match v with
  | .dict _ _ => true
  | .ref n => match h[n]? with
    | some (.dict _ _) => true
    | _ => false
  | _ => false
def dinV (h : Heap) (q d : Val) : Option Bool := match dr h d with
  | some (.dict ks vs) => if okKey q then some (lookD ks vs q).isSome else none
  | _ => none
/-- a repeated list that may be changed -/
def mulM (h : Heap) : Val → Val → Res Val
  | .list xs, .int j => if xs.length * j.toNat ≤ SL ∧ inM j = true then okList true (List.replicate j.toNat xs).flatten h else .stuck
  | _, _ => .stuck
def mulV (h : Heap) : Val → Val → Res Val
  | .int i, .int j => if small i || small j then .ok (.int (i * j)) h else .stuck
  | .str s, .int j => if s.length * j.toNat ≤ SL ∧ inM j = true then .ok (.str (List.replicate j.toNat s).flatten) h else .stuck
  | .tup xs, .int j => if xs.isEmpty = false ∧ 2 ≤ j ∧ j ≤ 1000 ∧ xs.length ≤ 1000 then .ok (.tup (List.replicate j.toNat xs).flatten) h else .stuck
  | .list xs, .int j => if xs.length * j.toNat ≤ SL ∧ inM j = true then .ok (.list (List.replicate j.toNat xs).flatten) h else .stuck
  | _, _ => .stuck
/-- beside an empty list or tuple of the same kind -/
def nilOk : Val → Val → Bool
  | .tup _, .tup [] => true
  | .list _, .list [] => true
  | _, _ => false
def eqV (h : Heap) (a b : Val) : Option Bool := match dr h a, dr h b with
  | some x, some y => if x.flat && y.flat && decide (x.deep ≤ 64) && decide (y.deep ≤ 64) then some (eqv x y) else if nilOk x y then some (eqv x y) else none
  | _, _ => none
def ltT : T → T → Bool
  | _, [] => false
  | [], _ :: _ => true
  | a :: s, b :: t => if a < b then true else if a = b then ltT s t else false
def ltV : Val → Val → Option Bool
  | .int i, .int j => some (decide (i < j))
  | .str s, .str t => some (ltT s t)
  | _, _ => none
/-- x in xs, by == -/
def memV (x : Val) : List Val → Bool
  | [] => false
  | y :: r => eqv y x || memV x r
def inV (h : Heap) (x c : Val) : Option Bool := match dr h c, x with
  | some (.str s), .str [c] => some (decide (c ∈ s))
  | some (.list xs), x => if x.flat && Val.flats xs && decide (x.deep ≤ 64) && decide (Val.deeps xs ≤ 64) then some (memV x xs) else none
  | some (.tup xs), x => if x.flat && Val.flats xs && decide (x.deep ≤ 64) && decide (Val.deeps xs ≤ 64) then some (memV x xs) else none
  | _, _ => none
def ixN (n : Nat) (i : Int) : Option Nat := if 0 ≤ i then (if i < n then some i.toNat else none) else if -(n : Int) ≤ i then some (i + n).toNat else none
def atI {A : Type} (xs : List A) (i : Int) : Option A := (ixN xs.length i).bind fun j => xs[j]?
def ixV (h : Heap) (a : Val) (i : Int) : Option Val := match dr h a with
  | some (.str s) => (atI s i).map fun c => .str [c]
  | some (.list xs) => atI xs i
  | some (.tup xs) => atI xs i
  | _ => none
def sIx (n d : Nat) : Option Int → Nat
  | none => d
  | some v => if v < 0 then (v + (n : Int)).toNat else min v.toNat n
def cut {A : Type} (xs : List A) (lo hi : Option Int) : List A := (xs.drop (sIx xs.length 0 lo)).take (sIx xs.length xs.length hi - sIx xs.length 0 lo)
def slV (h : Heap) (a : Val) (lo hi : Option Int) : Res Val := match dr h a with
  | some (.scr xs) => .ok (.list (cut xs lo hi)) h
  | some (.str s) => .ok (.str (cut s lo hi)) h
  | some (.list xs) => .ok (.list (cut xs lo hi)) h
  | some (.tup xs) => .ok (.tup (cut xs lo hi)) h
  | _ => .stuck
def slM (h : Heap) (a : Val) (lo hi : Option Int) : Res Val := match dr h a with
  | some (.scr xs) => okList true (cut xs lo hi) h
  | some (.list xs) => okList true (cut xs lo hi) h
  | _ => .stuck
def lenV (h : Heap) (a : Val) : Option Nat := match dr h a with
  | some (.str s) => some s.length
  | some (.list xs) => some xs.length
  | some (.tup xs) => some xs.length
  | _ => none
def boolsOf : List Val → Option (List Bool)
  | [] => some []
  | .bool b :: r => (boolsOf r).map (b :: ·)
  | _ => none
def intsOf : List Val → Option (List Int)
  | [] => some []
  | .int i :: r => (intsOf r).map (i :: ·)
  | _ => none
def textsOf : List Val → Option (List T)
  | [] => some []
  | .str s :: r => (textsOf r).map (s :: ·)
  | _ => none
/-- kinds: 0 str, 1 int, 2 bool, 3 tuple, 4 list, 5 dict, 6 None -/
def kindOf (h : Heap) (v : Val) : Option Nat := match dr h v with
  | some .none => some 6
  | some (.bool _) => some 2
  | some (.int _) => some 1
  | some (.str _) => some 0
  | some (.tup _) => some 3
  | some (.list _) => some 4
  | some (.dict _ _) => some 5
  | _ => none
def isOf (k t : Nat) : Bool := k == t || (k == 2 && t == 1)
def toS (s : T) : PySem.Str := ⟨s.toArray⟩
mutual
def toPy : Val → PySem.PyData
  | .none => .none
  | .bool b => .bool b
  | .int i => .int i
  | .str s => .str (toS s)
  | .tup xs => .tuple (toPys xs)
  | .list xs => .list (toPys xs)
  | .dict ks vs => .dict ((toPys ks).zip (toPys vs))
  | _ => .none
def toPys : List Val → List PySem.PyData
  | [] => []
  | x :: r => toPy x :: toPys r
end
mutual
/-- all numbers are below 2 ^ 1000 -/
def Val.few : Val → Bool
  | .int i => decide (i.natAbs < 2 ^ 1000)
  | .tup xs => Val.fews xs
  | .list xs => Val.fews xs
  | .dict ks vs => Val.fews ks && Val.fews vs
  | _ => true
def Val.fews : List Val → Bool
  | [] => true
  | x :: r => Val.few x && Val.fews r
end
def strR (s : PySem.Str) (h : Heap) : Res Val := if asc s.cps.toList then .ok (.str s.cps.toList) h else .stuck
def reprT (v : Val) : T := (PySem.PyData.shown (toPy v)).cps.toList
def reprV (h : Heap) (v : Val) : Res Val := match dr h v with
  | some x => if x.dat && x.few && decide (x.deep ≤ 64) && asc (reprT x) then .ok (.str (reprT x)) h else .stuck
  | none => .stuck

/-- a dict's texts in order -/
def sortT (ts : List T) : List T := ts.mergeSort fun a b => !ltT b a
def sortDV (h : Heap) (d : Val) : Res Val := match dr h d with
  | some (.dict ks _) => (match textsOf ks with
    | some ts => if ts.length < 64 then okList false ((sortT ts).map Val.str) h else .stuck
    | none => .stuck)
  | _ => .stuck
/-- d.get(q, w) -/
def dgetdV (h : Heap) (d q w : Val) : Res Val := match dr h d with
  | some (.dict ks vs) => if okKey q then .ok ((lookD ks vs q).getD w) h else .stuck
  | _ => .stuck
/-- how many unlike texts -/
def addT (seen : List T) (x : T) : List T := if x ∈ seen then seen else x :: seen
def lenSetV (h : Heap) (a : Val) : Res Val := match (lstOf h a).bind textsOf with
  | some ts => if ts.length < 4000 then .ok (.int ((ts.foldl addT []).length : Nat)) h else .stuck
  | none => .stuck
def optB (o : Option Bool) (h : Heap) : Res Val := match o with
  | some b => .ok (.bool b) h
  | none => .stuck
def optV (o : Option Val) (h : Heap) : Res Val := match o with
  | some v => .ok v h
  | none => .stuck
def minI : Int → List Int → Int
  | m, [] => m
  | m, i :: r => minI (if i < m then i else m) r
def maxI : Int → List Int → Int
  | m, [] => m
  | m, i :: r => maxI (if i > m then i else m) r
def int1 (a : Val) (f : Int → Res Val) : Res Val := match a with
  | .int i => f i
  | _ => .stuck
def int2 (a b : Val) (f : Int → Int → Res Val) : Res Val := match a, b with
  | .int i, .int j => f i j
  | _, _ => .stuck
def str1 (a : Val) (f : T → Res Val) : Res Val := match a with
  | .str i => f i
  | _ => .stuck
def bool1 (a : Val) (f : Bool → Res Val) : Res Val := match a with
  | .bool i => f i
  | _ => .stuck
def ref1 (a : Val) (f : Nat → Res Val) : Res Val := match a with
  | .ref i => f i
  | _ => .stuck
def isN : Val → Bool
  | .none => true
  | _ => false
def isTp : Val → Bool
  | .tup _ => true
  | _ => false
/-- data that can be compared -/
def alikes (xs : List Val) : Bool := xs.all fun a => xs.all fun b => PySem.W.alike (toPy a) (toPy b)
def cmpOk (xs : List Val) : Bool := Val.flats xs && decide (Val.deeps xs ≤ 64) && alikes xs && xs.all (fun v => !isN v)
def srtOk (xs : List Val) : Bool := Val.flats xs && decide (Val.deeps xs ≤ 64) && alikes xs && (xs.all isTp || xs.all fun v => !isN v && !isTp v)
def ltD (a b : Val) : Bool := PySem.W.dataLt (toPy a) (toPy b)
def minV (x : Val) (r : List Val) : Val := r.foldl (fun a y => if ltD y a then y else a) x
def sortV (xs : List Val) : List Val := xs.mergeSort fun a b => !ltD b a
def insU (i : Int) : List Int → List Int
  | [] => [i]
  | j :: r => if i < j then i :: j :: r else if i = j then j :: r else j :: insU i r
/-- numbers, each once, rising -/
def sortU (is : List Int) : List Int := is.foldr insU []
def seq1 (h : Heap) (a : Val) (f : List Val → Res Val) : Res Val := match seqOf h a with
  | some xs => f xs
  | none => .stuck
def lstr (h : Heap) (a : Val) (f : List Val → Res Val) : Res Val := match lstOf h a with
  | some xs => f xs
  | none => .stuck
def lst1 (h : Heap) (n : Nat) (f : List Val → Res Val) : Res Val := match h[n]? with
  | some (.list xs) => f xs
  | _ => .stuck
def evP (p : P) (vs : List Val) (h : Heap) : Res Val := match p, vs with
  | .add, [a, b] => addV h a b
  | .addm, [a, b] => addM h a b
  | .sub, [a, b] => subV h a b
  | .mul, [a, b] => mulV h a b
  | .fdiv, [a, b] => int2 a b fun i j => if 0 < j ∧ j < 1073741824 then .ok (.int (i / j)) h else .stuck
  | .mod, [a, b] => int2 a b fun i j => if 0 < j then .ok (.int (i % j)) h else .stuck
  | .pow, [a, b] => int2 a b fun i j => if 0 ≤ j ∧ j ≤ 1000 ∧ small i = true then .ok (.int (i ^ j.toNat)) h else .stuck
  | .neg, [a] => int1 a fun i => .ok (.int (-i)) h
  | .eq, [a, b] => optB (eqV h a b) h
  | .ne, [a, b] => optB ((eqV h a b).map (!·)) h
  | .lt, [a, b] => optB (ltV a b) h
  | .gt, [a, b] => optB (ltV b a) h
  | .le, [a, b] => optB ((ltV b a).map (!·)) h
  | .ge, [a, b] => optB ((ltV a b).map (!·)) h
  | .isNone, [a] => .ok (.bool (isN a)) h
  | .isNotNone, [a] => .ok (.bool (!isN a)) h
  | .isTrue, [a] => bool1 a fun b => .ok (.bool b) h
  | .isFalse, [a] => bool1 a fun b => .ok (.bool (!b)) h
  | .isNotTrue, [a] => bool1 a fun b => .ok (.bool (!b)) h
  | .isNotFalse, [a] => bool1 a fun b => .ok (.bool b) h
  | .mem, [a, b] => optB (inV h a b) h
  | .notmem, [a, b] => optB ((inV h a b).map (!·)) h
  | .ix, [a, b] => int1 b fun i => optV (ixV h a i) h
  | .sl true true, [a, b, c] => int2 b c fun i j => slV h a (some i) (some j)
  | .sl true false, [a, b] => int1 b fun i => slV h a (some i) none
  | .sl false true, [a, c] => int1 c fun j => slV h a none (some j)
  | .sl false false, [a] => slV h a none none
  | .slm true true, [a, b, c] => int2 b c fun i j => slM h a (some i) (some j)
  | .slm true false, [a, b] => int1 b fun i => slM h a (some i) none
  | .slm false true, [a, c] => int1 c fun j => slM h a none (some j)
  | .slm false false, [a] => slM h a none none
  | .rev m, [a] => match dr h a with
    | some (.list xs) => okList m xs.reverse h
    | some (.str s) => .ok (.str s.reverse) h
    | some (.tup xs) => okTup xs.reverse h
    | _ => .stuck
  | .tup, vs => okTup vs h
  | .list m, vs => okList m vs h
  | .dict0 m, [] => if m then .ok (.ref h.length) (h ++ [.dict [] []]) else .ok (.dict [] []) h
  | .dict1 m, [k, v] => if okKey k then (if m then .ok (.ref h.length) (h ++ [.dict [k] [v]]) else .ok (.dict [k] [v]) h) else .stuck
  | .dget, [d, q] => dgetV h d q
  | .din, [q, d] => optB (dinV h q d) h
  | .dnotin, [q, d] => optB ((dinV h q d).map (!·)) h
  | .mulm, [a, b] => mulM h a b
  | .sortD, [d] => sortDV h d
  | .lenSet, [a] => lenSetV h a
  | .minD, [a] => seq1 h a fun xs => match xs with
    | [] => .stuck
    | x :: r => if cmpOk (x :: r) then .ok (minV x r) h else .stuck
  | .minOr, [a, d] => seq1 h a fun xs => match xs with
    | [] => .ok d h
    | x :: r => if cmpOk (x :: r) then .ok (minV x r) h else .stuck
  | .sortL m, [a] => lstr h a fun xs => if srtOk xs then okList m (sortV xs) h else .stuck
  | .sortSet m, [a] => match a with
    | .tup xs => (match intsOf xs with
      | some is => if is.length < 64 then okList m ((sortU is).map .int) h else .stuck
      | none => .stuck)
    | _ => .stuck
  | .sindex, [a, b] => str1 a fun s => str1 b fun t => match PySem.Builtin.Str.occurrences (toS s) (toS t) 0 (toS s).length 1 with
    | i :: _ => .ok (.int (i : Nat)) h
    | [] => .stuck
  | .dgetd, [d, q, w] => dgetdV h d q w
  | .len, [a] => optV ((lenV h a).map fun n => .int n) h
  | .all, [a] => optB (((lstOf h a).bind boolsOf).map fun bs => bs.all id) h
  | .any, [a] => optB (((lstOf h a).bind boolsOf).map fun bs => bs.any id) h
  | .sum, [a] => optV (((seqOf h a).bind intsOf).map fun is => .int is.sum) h
  | .int, [a] => match a with
    | .bool b => .ok (.int (if b then 1 else 0)) h
    | .int i => .ok (.int i) h
    | _ => .stuck
  | .bool, [a] => bool1 a fun b => .ok (.bool b) h
  | .str, [a] => match a with
    | .int i => if i.natAbs < 2 ^ 1000 then strR (toString i) h else .stuck
    | .str s => .ok (.str s) h
    | .bool b => .ok (.str (if b then [84, 114, 117, 101] else [70, 97, 108, 115, 101])) h
    | _ => .stuck
  | .repr, [a] => reprV h a
  | .ord, [a] => str1 a fun s => match s with
    | [c] => .ok (.int c) h
    | _ => .stuck
  | .listOf m, [a] => seq1 h a fun xs => okList m xs h
  | .tupOf, [a] => seq1 h a fun xs => okTup xs h
  | .min2, [a, b] => int2 a b fun i j => .ok (.int (if j < i then j else i)) h
  | .max2, [a, b] => int2 a b fun i j => .ok (.int (if j > i then j else i)) h
  | .min1, [a] => match (lstOf h a).bind intsOf with
    | some (i :: r) => .ok (.int (minI i r)) h
    | _ => .stuck
  | .max1, [a] => match (lstOf h a).bind intsOf with
    | some (i :: r) => .ok (.int (maxI i r)) h
    | _ => .stuck
  | .isi ts, [a] => optB ((kindOf h a).map fun k => ts.any (isOf k)) h
  | .join, [a, b] => str1 a fun sep => match (seqOf h b).bind textsOf with
    | some ss => if (ss.map (·.length)).sum + ss.length * sep.length ≤ SL then strR (PySem.Txt.join (toS sep) (ss.map toS)) h else .stuck
    | none => .stuck
  | .upper, [a] => str1 a fun s => if s.length ≤ 5000000 then strR (PySem.Txt.upper (toS s)) h else .stuck
  | .count, [a, b] => str1 a fun s => str1 b fun t => .ok (.int (PySem.Txt.count (toS s) (toS t))) h
  | .replace, [a, b, c] => str1 a fun s => str1 b fun t => str1 c fun u => if s.length + (s.length + 1) * u.length ≤ SL ∧ t ≠ u then strR (PySem.Txt.replace (toS s) (toS t) (toS u)) h else .stuck
  | .append, [a, v] => ref1 a fun n => lst1 h n fun xs => if xs.length < SL then .ok .none (h.set n (.list (xs ++ [v]))) else .stuck
  | .pop, [a] => ref1 a fun n => lst1 h n fun xs => match xs[xs.length - 1]? with
    | some v => .ok v (h.set n (.list xs.dropLast))
    | none => .stuck
  | .popAt, [a, b] => ref1 a fun n => int1 b fun i => lst1 h n fun xs => if xs.length ≤ SL then (match ixN xs.length i with
    | some k => match xs[k]? with
      | some v => .ok v (h.set n (.list (xs.eraseIdx k)))
      | none => .stuck
    | none => .stuck) else .stuck
  | .extend, [a, b] => ref1 a fun n => lst1 h n fun xs => lstr h b fun ys => if xs.length + ys.length ≤ SL then .ok .none (h.set n (.list (xs ++ ys))) else .stuck
  | _, _ => .stuck
/-! ### the text -/
inductive Tg where
  | name (i : Nat)
  | tup (is : List Nat)
mutual
inductive ME where
  | lit (v : Val)
  | var (i : Nat)
  | prim (p : P) (es : List ME)
  | and (a b : ME)
  | or (a b : ME)
  | not (a : ME)
  | ite (t a b : ME)
  | chain (p q : P) (a b c : ME)
  | call (f : Nat) (es kes : List ME) (sel : List (Sum Nat Val))
  | comp (m : Bool) (own : List Nat) (t : Tg) (i : MI) (cs : List ME) (e : ME)
  | frz (e : ME)
  | meth (p : P) (o : ME) (es : List ME)
  | junk
  | attr (c f : T) (o : ME)
  | make (c : T) (i : Nat) (es : List ME) (sel : List (Sum Nat Val))
  | mcall (c m : T) (i : Nat) (o : ME) (es : List ME) (sel : List (Sum Nat Val))
  | comps (d m : Bool) (g : MG) (e v : ME)
inductive MG where
  | last
  | more (t : Tg) (i : MI) (cs : List ME) (r : MG)
inductive MI where
  | val (e : ME)
  | range (es : List ME)
  | enum (e : ME)
  | zip (a b : ME)
end
inductive TS where
  | name (i : Nat)
  | tup (is : List Nat)
  | ix (a i : ME)
  | dk (a i : ME)
  | at (c f : T) (o : ME)
  | star (is : List Nat) (j : Nat)
mutual
inductive MS where
  | asg (ts : List TS) (e : ME)
  | par (is : List Nat) (es : List ME)
  | asg2 (i j : Nat) (e : ME)
  | aug (i : Nat) (p : P) (e : ME)
  | expr (e : ME)
  | ite (t : ME) (a b : List MS)
  | wh (t : ME) (b : List MS)
  | for (t : Tg) (i : MI) (b : List MS)
  | ret (e : ME)
  | kill (is : List Nat)
  | brk
  | junk
  | tryb (b : List MS)
end
abbrev Loc := List (Option Val)
abbrev CallFn := Nat → List Val → Heap → Res Val
def setsTg : List Nat → List Val → Loc → Option Loc
  | [], [], ls => some ls
  | i :: is, x :: xs, ls => setsTg is xs (ls.set i (some x))
  | _, _, _ => none
def setTg (t : Tg) (v : Val) (ls : Loc) : Option Loc := match t with
  | .name i => some (ls.set i (some v))
  | .tup is => match v with
    | .tup xs => setsTg is xs ls
    | _ => none
def selV (sel : List (Sum Nat Val)) (vs : List Val) : Option (List Val) := match sel with
  | [] => some []
  | .inl j :: r => match vs[j]?, selV r vs with
    | some v, some l => some (v :: l)
    | _, _ => none
  | .inr v :: r => (selV r vs).map (v :: ·)
def rangeL (lo : Int) : Nat → List Val
  | 0 => []
  | n + 1 => .int lo :: rangeL (lo + 1) n
def rangeD (lo : Int) : Nat → List Val
  | 0 => []
  | n + 1 => .int lo :: rangeD (lo - 1) n
def enumL (i : Int) : List Val → List Val
  | [] => []
  | x :: r => .tup [.int i, x] :: enumL (i + 1) r
def zipL : List Val → List Val → List Val
  | x :: r, y :: s => .tup [x, y] :: zipL r s
  | _, _ => []
@[irreducible] def RL : Int := 1000000000
theorem RL_eq : RL = 1000000000 := by unfold RL; rfl
def inR (i : Int) : Bool := Nat.ble i.natAbs 1000000000
theorem inR_iff {i : Int} : inR i = true ↔ -RL ≤ i ∧ i ≤ RL := by
  unfold inR
  rw [Nat.ble_eq, RL_eq]
  omega
def Tg.slots : Tg → List Nat
  | .name i => [i]
  | .tup is => is
def MG.slots : MG → List Nat
  | .last => []
  | .more t _ _ r => t.slots ++ r.slots
/-- a dict from its pairs, one after another -/
def putP (o : Option (List Val × List Val)) (x : Val) : Option (List Val × List Val) := match o, x with
  | some (ks, vs), .tup [k, v] => if okKey k then some (putKs ks k, putVs ks vs k v) else none
  | _, _ => none
def dictP (us : List Val) : Option (List Val × List Val) := us.foldl putP (some ([], []))
def okDict (m : Bool) (us : List Val) (h : Heap) : Res Val := match dictP us with
  | some (ks, vs) => if us.length ≤ SL then (if m then .ok (.ref h.length) (h ++ [.dict ks vs]) else .ok (.dict ks vs) h) else .stuck
  | none => .stuck
/-- an instance's field -/
def lookF : List T → List Val → T → Option Val
  | n :: ns, v :: vs, f => if n = f then some v else lookF ns vs f
  | _, _, _ => none
def putFN (ns : List T) (f : T) : List T := if f ∈ ns then ns else ns ++ [f]
def putFV : List T → List Val → T → Val → List Val
  | n :: ns, v :: vs, f, w => if n = f then w :: vs else v :: putFV ns vs f w
  | _, _, _, w => [w]
def attrV (h : Heap) (c f : T) (v : Val) : Res Val := match v with
  | .ref n => match h[n]? with
    | some (.inst c' ns vs) => if c' = c then (match lookF ns vs f with
      | some w => .ok w h
      | none => .stuck) else .stuck
    | _ => .stuck
  | _ => .stuck
def isInst (h : Heap) (c m : T) (v : Val) : Bool := match v with
  | .ref n => match h[n]? with
    | some (.inst c' ns _) => c' == c && !(ns.any fun n => n == m)
    | _ => false
  | _ => false
/-- name, *rest = .. -/
def setStar (is : List Nat) (j : Nat) (v : Val) (ls : Loc) (h : Heap) : Res Loc := match v with
  | .tup xs => if is.length ≤ xs.length ∧ xs.length ≤ SL then (match setsTg is (xs.take is.length) ls with
    | some ls => .ok (ls.set j (some (.list (xs.drop is.length)))) h
    | none => .stuck) else .stuck
  | _ => .stuck
/-- what a walk goes over, and the mutable object that must stand as it is meanwhile -/
def itRange (vs : List Val) : Option (List Val) := match vs with
  | [.int j] => if inR j = true then some (rangeL 0 j.toNat) else none
  | [.int i, .int j] => if inR i = true ∧ inR j = true then some (rangeL i (j - i).toNat) else none
  | [.int i, .int j, .int c] => if inR i = true ∧ inR j = true ∧ c = -1 then some (rangeD i (i - j).toNat) else none
  | _ => none
theorem itR1 (j : Int) : itRange [.int j] = if -RL ≤ j ∧ j ≤ RL then some (rangeL 0 j.toNat) else none := by
  show (if inR j = true then _ else _) = _
  simp only [inR_iff]
theorem itR2 (i j : Int) : itRange [.int i, .int j] = if -RL ≤ i ∧ i ≤ RL ∧ -RL ≤ j ∧ j ≤ RL then some (rangeL i (j - i).toNat) else none := by
  show (if inR i = true ∧ inR j = true then _ else _) = _
  simp only [inR_iff, and_assoc]
theorem itR3 (i j c : Int) : itRange [.int i, .int j, .int c] = if -RL ≤ i ∧ i ≤ RL ∧ -RL ≤ j ∧ j ≤ RL ∧ c = -1 then some (rangeD i (i - j).toNat) else none := by
  show (if inR i = true ∧ inR j = true ∧ c = -1 then _ else _) = _
  simp only [inR_iff, and_assoc]
abbrev Pin := Option (Nat × List Val)
def itVal (h : Heap) (v : Val) : Option (List Val × Pin) := match v with
  | .str s => some (s.map fun c => .str [c], none)
  | .tup xs => some (xs, none)
  | .list xs => some (xs, none)
  | .ref n => match h[n]? with
    | some (.list xs) => some (xs, some (n, xs))
    | _ => none
  | _ => none
def zipR (v w : Val) (h : Heap) : Res (List Val × Pin) := match v, w with
  | .tup l, .tup k => .ok (zipL l k, none) h
  | .list l, .list k => .ok (zipL l k, none) h
  | _, _ => .stuck
/-- no list -/
def isTup : Val → Bool
  | .list _ => false
  | .ref _ => false
  | _ => true
/-- a walked mutable list may not have changed -/
def pinned (h : Heap) : Pin → Bool
  | none => true
  | some (n, xs) => match h[n]? with
    | some (.list ys) => Val.sames ys xs
    | _ => false

inductive Flow where
  | nx (ls : Loc)
  | ret (v : Val)
  | brk (ls : Loc)
/-- freezing: a mutable list (or dict) is from here on a value -/
def frzV (v : Val) (h : Heap) : Res Val := match v with
  | .ref n => match h[n]? with
    | some (.list xs) => .ok (.list xs) (h.set n .dead)
    | some (.dict ks vs) => .ok (.dict ks vs) (h.set n .dead)
    | _ => .stuck
  | v => .ok v h
/-- the turns of a comprehension's clause -/
def turns (pin : Pin) (step : Val → Heap → Res (List Val)) : List Val → Heap → Res (List Val)
  | [], h => if pinned h pin then .ok [] h else .stuck
  | v :: r, h => if pinned h pin then (step v h).bind fun a h => (turns pin step r h).bind fun b h => .ok (a ++ b) h else .stuck
def forL (pin : Pin) (step : Val → Loc → Heap → Res Flow) : List Val → Loc → Heap → Res Flow
  | [], ls, h => if pinned h pin then .ok (.nx ls) h else .stuck
  | v :: r, ls, h => if pinned h pin then (step v ls h).bind fun f h => (match f with
    | .nx ls => forL pin step r ls h
    | .ret v => .ok (.ret v) h
    | .brk ls => .ok (.nx ls) h) else .stuck
def whL (test : Loc → Heap → Res Bool) (step : Loc → Heap → Res Flow) : Nat → Loc → Heap → Res Flow
  | 0, _, _ => .stuck
  | n + 1, ls, h => (test ls h).bind fun b h => if b then (step ls h).bind fun f h => (match f with
    | .nx ls => whL test step n ls h
    | .ret v => .ok (.ret v) h
    | .brk ls => .ok (.nx ls) h) else .ok (.nx ls) h
def killL (is : List Nat) (ls : Loc) : Loc := is.foldl (fun l i => l.set i none) ls
def WL : Nat := 1000000000000
def truthR (v : Val) (h : Heap) : Res Bool := match truth h v with
  | some b => .ok b h
  | none => .stuck
/-- may the method be asked of it -/
def isLst (v : Val) (h : Heap) : Bool := match v with
  | .ref n => match h[n]? with
    | some (.list _) => true
    | _ => false
  | _ => false
def isStr : Val → Bool
  | .str _ => true
  | _ => false
def recv (p : P) (v : Val) (h : Heap) : Bool := match p with
  | .append | .pop | .popAt | .extend | .insert => isLst v h
  | .join | .upper | .replace | .count | .sindex => isStr v
  | .dgetd => isDct v h
  | _ => false
mutual
def evE (cl : CallFn) : ME → Loc → Heap → Res Val
  | .lit v, _, h => .ok v h
  | .var i, ls, h => match ls[i]? with
    | some (some v) => .ok v h
    | _ => .stuck
  | .prim p es, ls, h => (evEs cl es ls h).bind fun vs h => evP p vs h
  | .and a b, ls, h => (evE cl a ls h).bind fun v h => (truthR v h).bind fun t h => if t then evE cl b ls h else .ok v h
  | .or a b, ls, h => (evE cl a ls h).bind fun v h => (truthR v h).bind fun t h => if t then .ok v h else evE cl b ls h
  | .not a, ls, h => (evE cl a ls h).bind fun v h => (truthR v h).bind fun t h => .ok (.bool (!t)) h
  | .ite t a b, ls, h => (evE cl t ls h).bind fun v h => (truthR v h).bind fun t h => if t then evE cl a ls h else evE cl b ls h
  | .chain p q a b c, ls, h => (evE cl a ls h).bind fun x h => (evE cl b ls h).bind fun y h => (evP p [x, y] h).bind fun v h => (match v with
    | .bool true => (evE cl c ls h).bind fun z h => evP q [y, z] h
    | .bool false => .ok (.bool false) h
    | _ => .stuck)
  | .call f es kes sel, ls, h => (evEs cl es ls h).bind fun vs h => (evEs cl kes ls h).bind fun ws h => match selV sel (vs ++ ws) with
    | some us => cl f us h
    | none => .stuck
  | .comp m own t i cs e, ls, h => (evI cl i ls h).bind fun p h => (turns p.2 (fun v h => match setTg t v (killL own ls) with
    | some ls => (evC cl cs ls h).bind fun b h => if b then (evE cl e ls h).bind fun v h => .ok [v] h else .ok [] h
    | none => .stuck) p.1 h).bind fun vs h => okList m vs h
  | .frz e, ls, h => (evE cl e ls h).bind fun v h => frzV v h
  | .meth p o es, ls, h => (evE cl o ls h).bind fun v h => if recv p v h then (evEs cl es ls h).bind fun vs h => evP p (v :: vs) h else .stuck
  | .junk, _, _ => .stuck
  | .attr c f o, ls, h => (evE cl o ls h).bind fun v h => attrV h c f v
  | .make c i es sel, ls, h => (evEs cl es ls h).bind fun vs h => (match selV sel (.ref h.length :: vs) with
    | some us => (cl i us (h ++ [.inst c [] []])).bind fun r h' => if isN r then .ok (.ref h.length) h' else .stuck
    | none => .stuck)
  | .mcall c m i o es sel, ls, h => (evE cl o ls h).bind fun v h => if isInst h c m v then (evEs cl es ls h).bind fun vs h => (match selV sel (v :: vs) with
    | some us => cl i us h
    | none => .stuck) else .stuck
  | .comps d m g e v, ls, h => (evG cl g (fun ls h => if d then (evE cl e ls h).bind fun a h => (evE cl v ls h).bind fun b h => .ok [.tup [a, b]] h else (evE cl e ls h).bind fun a h => .ok [a] h) ls h).bind fun us h => if d then okDict m us h else okList m us h
def evG (cl : CallFn) : MG → (Loc → Heap → Res (List Val)) → Loc → Heap → Res (List Val)
  | .last, f, ls, h => f ls h
  | .more t i cs r, f, ls, h => (evI cl i ls h).bind fun p h => turns p.2 (fun v h => match setTg t v (killL (t.slots ++ r.slots) ls) with
    | some ls => (evC cl cs ls h).bind fun b h => if b then evG cl r f ls h else .ok [] h
    | none => .stuck) p.1 h
def evEs (cl : CallFn) : List ME → Loc → Heap → Res (List Val)
  | [], _, h => .ok [] h
  | e :: r, ls, h => (evE cl e ls h).bind fun v h => (evEs cl r ls h).bind fun vs h => .ok (v :: vs) h
def evC (cl : CallFn) : List ME → Loc → Heap → Res Bool
  | [], _, h => .ok true h
  | c :: r, ls, h => (evE cl c ls h).bind fun v h => (truthR v h).bind fun t h => if t then evC cl r ls h else .ok false h
def evI (cl : CallFn) : MI → Loc → Heap → Res (List Val × Pin)
  | .val e, ls, h => (evE cl e ls h).bind fun v h => match itVal h v with
    | some p => .ok p h
    | none => .stuck
  | .range es, ls, h => (evEs cl es ls h).bind fun vs h => match itRange vs with
    | some l => .ok (l, none) h
    | none => .stuck
  | .enum e, ls, h => (evE cl e ls h).bind fun v h => match isStr v, itVal h v with
    | false, some (l, pin) => .ok (enumL 0 l, pin) h
    | _, _ => .stuck
  | .zip a b, ls, h => (evE cl a ls h).bind fun v h => (evE cl b ls h).bind fun w h => zipR v w h
end
def evT (cl : CallFn) (e : ME) (ls : Loc) (h : Heap) : Res Bool := (evE cl e ls h).bind truthR
def ref1S {A : Type} (a : Val) (h : Heap) (f : Nat → Res A) : Res A := match a with
  | .ref i => f i
  | _ => .stuck
def int1S {A : Type} (a : Val) (f : Int → Res A) : Res A := match a with
  | .int i => f i
  | _ => .stuck
def lst1S {A : Type} (h : Heap) (n : Nat) (f : List Val → Res A) : Res A := match h[n]? with
  | some (.list xs) => f xs
  | _ => .stuck
def dct1S {A : Type} (h : Heap) (n : Nat) (f : List Val → List Val → Res A) : Res A := match h[n]? with
  | some (.dict ks vs) => f ks vs
  | _ => .stuck
/-- op= -/
def augV (p : P) (v w : Val) (h : Heap) : Res Val := match p, v, w with
  | .add, .int i, .int j => .ok (.int (i + j)) h
  | .add, .str s, .str t => okT (s ++ t) h
  | .sub, .int i, .int j => .ok (.int (i - j)) h
  | _, _, _ => .stuck
def ins1S {A : Type} (h : Heap) (n : Nat) (f : T → List T → List Val → Res A) : Res A := match h[n]? with
  | some (.inst c ns vs) => f c ns vs
  | _ => .stuck
def stoTg (cl : CallFn) (v : Val) : TS → Loc → Heap → Res Loc
  | .at c f o, ls, h => (evE cl o ls h).bind fun x h => ref1S x h fun n => ins1S h n fun c' ns vs => if c' = c ∧ ns.length < 500 then .ok ls (h.set n (.inst c (putFN ns f) (putFV ns vs f v))) else .stuck
  | .star is j, ls, h => setStar is j v ls h
  | .name i, ls, h => .ok (ls.set i (some v)) h
  | .tup is, ls, h => match setTg (.tup is) v ls with
    | some ls => .ok ls h
    | none => .stuck
  | .ix a i, ls, h => (evE cl a ls h).bind fun x h => (evE cl i ls h).bind fun y h => ref1S x h fun n => int1S y fun j => lst1S h n fun xs => match ixN xs.length j with
    | some k => .ok ls (h.set n (.list (xs.set k v)))
    | none => .stuck
  | .dk a i, ls, h => (evE cl a ls h).bind fun x h => (evE cl i ls h).bind fun q h => ref1S x h fun n => dct1S h n fun ks vs => if okKey q && decide (ks.length < SL) then .ok ls (h.set n (.dict (putKs ks q) (putVs ks vs q v))) else .stuck
def stoTgs (cl : CallFn) (v : Val) : List TS → Loc → Heap → Res Loc
  | [], ls, h => .ok ls h
  | t :: r, ls, h => (stoTg cl v t ls h).bind fun ls h => stoTgs cl v r ls h
mutual
def evS (cl : CallFn) : MS → Loc → Heap → Res Flow
  | .asg ts e, ls, h => (evE cl e ls h).bind fun v h => (stoTgs cl v ts ls h).bind fun ls h => .ok (.nx ls) h
  | .par is es, ls, h => (evEs cl es ls h).bind fun vs h => match setsTg is vs ls with
    | some ls => .ok (.nx ls) h
    | none => .stuck
  | .asg2 i j e, ls, h => (evE cl e ls h).bind fun v h => .ok (.nx ((ls.set i (some v)).set j (some v))) h
  | .aug i p e, ls, h => match ls[i]? with
    | some (some x) => (evE cl e ls h).bind fun y h => (augV p x y h).bind fun v h => .ok (.nx (ls.set i (some v))) h
    | _ => .stuck
  | .expr e, ls, h => (evE cl e ls h).bind fun _ h => .ok (.nx ls) h
  | .ite t a b, ls, h => (evT cl t ls h).bind fun c h => if c then evB cl a ls h else evB cl b ls h
  | .wh t b, ls, h => whL (evT cl t) (fun ls h => evB cl b ls h) WL ls h
  | .for t i b, ls, h => (evI cl i ls h).bind fun p h => forL p.2 (fun v ls h => match setTg t v ls with
    | some ls => evB cl b ls h
    | none => .stuck) p.1 ls h
  | .ret e, ls, h => (evE cl e ls h).bind fun v h => .ok (.ret v) h
  | .kill is, ls, h => .ok (.nx (killL is ls)) h
  | .brk, ls, h => .ok (.brk ls) h
  | .junk, _, _ => .stuck
  | .tryb b, ls, h => evB cl b ls h
def evB (cl : CallFn) : List MS → Loc → Heap → Res Flow
  | [], ls, h => .ok (.nx ls) h
  | s :: r, ls, h => (evS cl s ls h).bind fun f h => match f with
    | .nx ls => evB cl r ls h
    | f => .ok f h
end
/-! ### defs -/
structure Fn where
  n : Nat
  slots : Nat
  keep : Bool
  body : List MS
def okDrop (n : Nat) : Heap → Heap → Bool
  | [], _ => true
  | o :: h, o' :: h' => (Obj.same o o' || o'.lt n) && okDrop n h h'
  | _ :: _, [] => false
/-- behind a call: what was made is dropped, but for what a keeping def made -/
def dropTo (keep : Bool) (h : Heap) (v : Val) (h' : Heap) : Res Val :=
  if keep then .ok v h' else if v.lt h.length && okDrop h.length h h' then .ok v (h'.take h.length) else .stuck
abbrev Tab := Nat → Option Fn
def runF (cl : CallFn) (f : Fn) (vs : List Val) (h : Heap) : Res Val :=
  if vs.length = f.n then
    match evB cl f.body (vs.map some ++ List.replicate (f.slots - f.n) none) h with
    | .ok (.ret v) h' => dropTo f.keep h v h'
    | .ok (.nx _) h' => dropTo f.keep h .none h'
    | .ok (.brk _) _ => .stuck
    | .exc e h' => .exc e h'
    | .stuck => .stuck
  else .stuck
def callN (G : Tab) : Nat → CallFn
  | 0 => fun _ _ _ => .stuck
  | k + 1 => fun f vs h => match G f with
    | some fn => runF (callN G k) fn vs h
    | none => .stuck
end M
namespace M
open PySem PySem.Spec PyProof.Rows L2
/-! ### what stands for what -/
/-- the numbers' addresses, the heap -/
structure RS where
  K : PySem.W.Frag
  r : List Addr
  h : Heap
  H : Hp
  own : List Addr := []
def Liv (S : RS) (a : Addr) : Prop := ∃ (i : Nat) (o : Obj), S.r[i]? = some a ∧ S.h[i]? = some o ∧ o ≠ Obj.dead
/-- a live mutable object, or a list that is being made -/
def Live (S : RS) (a : Addr) : Prop := Liv S a ∨ a ∈ S.own
def KT (K : PySem.W.Frag) (a : Addr) (xs : List V) : Prop :=
  ∃ (o : PySem.Obj) (its : Array Value) (n : Nat), K.lookup a = some o ∧ o.cls = .type "tuple" ∧ o.data = .seq its n ∧ its.size ≤ sizeLine ∧ Vals xs its.toList
def FzL (S : RS) (a : Addr) (xs : List V) : Prop := S.H a = some (.lst xs) ∧ ¬ Live S a
def KL (K : PySem.W.Frag) (a : Addr) (xs : List V) : Prop :=
  ∃ (o : PySem.Obj) (its : Array Value) (n : Nat), K.lookup a = some o ∧ o.cls = .type "list" ∧ o.dict = none ∧ o.data = .seq its n ∧
    its.size ≤ sizeLine ∧ Vals xs its.toList
/-- the script, which nothing writes -/
def Scr (S : RS) (a : Addr) (xs : List V) : Prop := (∃ o, S.H a = some (.frz o (.lst xs)) ∧ ¬ Live S a) ∨ KL S.K a xs
theorem Scr.sq {S : RS} {a : Addr} {xs : List V} (h : Scr S a xs) : SqL S.K S.H a xs := by
  rcases h with ⟨o, h, _⟩ | h
  · exact .inl (.inr ⟨o, h⟩)
  · exact .inr h
def FzT (S : RS) (a : Addr) (xs : List V) : Prop := (Rd S.H a (.tup xs) ∧ ¬ Live S a) ∨ KT S.K a xs
def FzD (S : RS) (a : Addr) (kvs : List (Key × V)) : Prop := S.H a = some (.dK kvs) ∧ ¬ Live S a
theorem FzL.sq {S : RS} {a : Addr} {xs : List V} (h : FzL S a xs) : SqL S.K S.H a xs := .inl (.inl h.1)
theorem FzT.sq {S : RS} {a : Addr} {xs : List V} (h : FzT S a xs) : SqT S.K S.H a xs := h.imp And.left id
mutual
def Rel (S : RS) : Val → V → Prop
  | .none, x => x = .non
  | .bool b, x => x = .bl b
  | .int i, x => x = .int i
  | .str s, x => x = .str (toS s) ∧ asc s = true
  | .tup xs, x => ∃ a vs, x = .ref a ∧ FzT S a vs ∧ Rels S xs vs
  | .list xs, x => ∃ a vs, x = .ref a ∧ FzL S a vs ∧ Rels S xs vs
  | .dict ks vs, x => ∃ a kvs, x = .ref a ∧ FzD S a kvs ∧ Rels S ks (kvs.map fun p => kV p.1) ∧ Rels S vs (kvs.map Prod.snd)
  | .obj _ _ _, _ => False
  | .ref n, x => ∃ a, S.r[n]? = some a ∧ x = .ref a
  | .fn _, _ => False
  | .cls _, _ => False
  | .ty _, _ => False
  | .scr xs, x => ∃ a vs, x = .ref a ∧ Scr S a vs ∧ Rels S xs vs
def Rels (S : RS) : List Val → List V → Prop
  | [], vs => vs = []
  | v :: r, vs => ∃ x t, vs = x :: t ∧ Rel S v x ∧ Rels S r t
end
def ORel (S : RS) (a : Addr) : Obj → Prop
  | .dead => ∃ o, S.H a = some o
  | .list xs => ∃ vs, S.H a = some (.lst vs) ∧ Rels S xs vs
  | .dict ks vs => ∃ kvs, S.H a = some (.dK kvs) ∧ Rels S ks (kvs.map fun p => kV p.1) ∧ Rels S vs (kvs.map Prod.snd)
  | .inst c ns vs => ∃ dx fs, S.H a = some (.ins (He.ga S.K (toS c)) dx fs) ∧ S.H dx = some (.own a) ∧ ¬ Live S dx ∧ fs.map (·.1) = ns.map toS ∧ Rels S vs (fs.map (·.2))
structure Good (S : RS) : Prop where
  len : S.r.length = S.h.length
  nd : S.r.Nodup
  obj : ∀ (i : Nat) (o : Obj) (a : Addr), S.h[i]? = some o → S.r[i]? = some a → ORel S a o
  ow : ∀ a ∈ S.own, (∃ o, S.H a = some o) ∧ a ∉ S.r
structure Ext (S S' : RS) : Prop where
  K : S'.K = S.K
  pre : ∃ t, S'.r = S.r ++ t
  keep : ∀ a o, S.H a = some o → ¬ Live S a → S'.H a = some o ∧ ¬ Live S' a
  sub : ∀ a ∈ S.own, a ∈ S'.own
  kow : ∀ a o, a ∈ S.own → S.H a = some o → S'.H a = some o
theorem Ext.refl {S : RS} : Ext S S := ⟨rfl, ⟨[], by simp⟩, fun _ _ e n => ⟨e, n⟩, fun _ h => h, fun _ _ _ e => e⟩
theorem Ext.trans {S S' S'' : RS} (a : Ext S S') (b : Ext S' S'') : Ext S S'' :=
  ⟨b.K.trans a.K, by obtain ⟨t, e⟩ := a.pre; obtain ⟨u, f⟩ := b.pre; exact ⟨t ++ u, by rw [f, e, List.append_assoc]⟩,
   fun x o e n => let ⟨e1, n1⟩ := a.keep x o e n; b.keep x o e1 n1, fun x m => b.sub x (a.sub x m),
   fun x o m e => b.kow x o (a.sub x m) (a.kow x o m e)⟩
/-- the same, but for what is being made -/
structure ExtW (S S' : RS) : Prop where
  K : S'.K = S.K
  pre : ∃ t, S'.r = S.r ++ t
  keep : ∀ a o, S.H a = some o → ¬ Live S a → S'.H a = some o ∧ ¬ Live S' a
theorem Ext.w {S S' : RS} (e : Ext S S') : ExtW S S' := ⟨e.K, e.pre, e.keep⟩
theorem ExtW.trans {S S' S'' : RS} (a : ExtW S S') (b : ExtW S' S'') : ExtW S S'' :=
  ⟨b.K.trans a.K, by obtain ⟨t, e⟩ := a.pre; obtain ⟨u, f⟩ := b.pre; exact ⟨t ++ u, by rw [f, e, List.append_assoc]⟩, fun x o e n => let ⟨e1, n1⟩ := a.keep x o e n; b.keep x o e1 n1⟩
theorem ExtW.rd {S S' : RS} (e : ExtW S S') {a : Addr} {u : HO} (h : Rd S.H a u) (n : ¬ Live S a) : Rd S'.H a u ∧ ¬ Live S' a := by
  rcases h with h | ⟨o, h⟩
  · obtain ⟨h1, n1⟩ := e.keep _ _ h n; exact ⟨.inl h1, n1⟩
  · obtain ⟨h1, n1⟩ := e.keep _ _ h n; exact ⟨.inr ⟨o, h1⟩, n1⟩
theorem ExtW.fzL {S S' : RS} (e : ExtW S S') {a : Addr} {xs : List V} (h : FzL S a xs) : FzL S' a xs := e.keep _ _ h.1 h.2
theorem ExtW.fzD {S S' : RS} (e : ExtW S S') {a : Addr} {kvs : List (Key × V)} (h : FzD S a kvs) : FzD S' a kvs := e.keep _ _ h.1 h.2
theorem ExtW.scr {S S' : RS} (e : ExtW S S') {a : Addr} {xs : List V} (h : Scr S a xs) : Scr S' a xs := by
  rcases h with ⟨o, h, n⟩ | h
  · exact .inl ⟨o, e.keep _ _ h n⟩
  · exact .inr (by rw [e.K]; exact h)
theorem ExtW.fzT {S S' : RS} (e : ExtW S S') {a : Addr} {xs : List V} (h : FzT S a xs) : FzT S' a xs := by
  rcases h with ⟨h, n⟩ | h
  · exact .inl (e.rd h n)
  · exact .inr (by rw [e.K]; exact h)
theorem ExtW.at {S S' : RS} (e : ExtW S S') {n : Nat} {a : Addr} (h : S.r[n]? = some a) : S'.r[n]? = some a := by
  obtain ⟨t, q⟩ := e.pre
  rw [q, List.getElem?_append_left (List.getElem?_eq_some_iff.mp h).1]; exact h
mutual
theorem Rel.extW {S S' : RS} (e : ExtW S S') : ∀ {v : Val} {x : V}, Rel S v x → Rel S' v x
  | .none, _, h => h
  | .bool _, _, h => h
  | .int _, _, h => h
  | .str _, _, h => h
  | .tup xs, x, h => by
    obtain ⟨a, vs, h1, h2, h3⟩ := h
    exact ⟨a, vs, h1, e.fzT h2, Rels.extW e h3⟩
  | .list xs, x, h => by
    obtain ⟨a, vs, h1, h2, h3⟩ := h
    exact ⟨a, vs, h1, e.fzL h2, Rels.extW e h3⟩
  | .dict ks vs, _, h => by
    obtain ⟨a, kvs, h1, h2, h3, h4⟩ := h
    exact ⟨a, kvs, h1, e.fzD h2, Rels.extW e h3, Rels.extW e h4⟩
  | .obj _ _ _, _, h => h.elim
  | .ref n, x, h => by
    obtain ⟨a, h1, h2⟩ := h
    exact ⟨a, e.at h1, h2⟩
  | .fn _, _, h => h.elim
  | .cls _, _, h => h.elim
  | .ty _, _, h => h.elim
  | .scr xs, x, h => by
    obtain ⟨a, vs, h1, h2, h3⟩ := h
    exact ⟨a, vs, h1, e.scr h2, Rels.extW e h3⟩
theorem Rels.extW {S S' : RS} (e : ExtW S S') : ∀ {vs : List Val} {xs : List V}, Rels S vs xs → Rels S' vs xs
  | [], _, h => h
  | v :: r, xs, h => by
    obtain ⟨x, t, h1, h2, h3⟩ := h
    exact ⟨x, t, h1, Rel.extW e h2, Rels.extW e h3⟩
end
theorem Ext.rd {S S' : RS} (e : Ext S S') {a : Addr} {u : HO} (h : Rd S.H a u) (n : ¬ Live S a) : Rd S'.H a u ∧ ¬ Live S' a := e.w.rd h n
theorem Ext.fzL {S S' : RS} (e : Ext S S') {a : Addr} {xs : List V} (h : FzL S a xs) : FzL S' a xs := e.w.fzL h
theorem Ext.fzD {S S' : RS} (e : Ext S S') {a : Addr} {kvs : List (Key × V)} (h : FzD S a kvs) : FzD S' a kvs := e.w.fzD h
theorem Ext.scr {S S' : RS} (e : Ext S S') {a : Addr} {xs : List V} (h : Scr S a xs) : Scr S' a xs := e.w.scr h
theorem Ext.fzT {S S' : RS} (e : Ext S S') {a : Addr} {xs : List V} (h : FzT S a xs) : FzT S' a xs := e.w.fzT h
theorem Ext.at {S S' : RS} (e : Ext S S') {n : Nat} {a : Addr} (h : S.r[n]? = some a) : S'.r[n]? = some a := e.w.at h
theorem Rel.ext {S S' : RS} (e : Ext S S') {v : Val} {x : V} (h : Rel S v x) : Rel S' v x := h.extW e.w
theorem Rels.ext {S S' : RS} (e : Ext S S') {v : List Val} {x : List V} (h : Rels S v x) : Rels S' v x := h.extW e.w
theorem Rels.len {S : RS} : ∀ {vs : List Val} {xs : List V}, Rels S vs xs → vs.length = xs.length
  | [], _, h => by cases h; rfl
  | v :: r, xs, h => by
    obtain ⟨x, t, rfl, _, h3⟩ := h
    simp [Rels.len h3]
theorem Rels.get {S : RS} : ∀ {vs : List Val} {xs : List V} {i : Nat} {v : Val}, Rels S vs xs → vs[i]? = some v → ∃ x, xs[i]? = some x ∧ Rel S v x
  | [], _, _, _, _, h => by simp at h
  | v :: r, xs, 0, w, h, e => by
    obtain ⟨x, t, rfl, h2, h3⟩ := h
    simp at e; subst e; exact ⟨x, rfl, h2⟩
  | v :: r, xs, i + 1, w, h, e => by
    obtain ⟨x, t, rfl, h2, h3⟩ := h
    simp at e
    obtain ⟨y, e1, e2⟩ := Rels.get (i := i) h3 e
    exact ⟨y, by simpa using e1, e2⟩
theorem Rels.app {S : RS} : ∀ {vs ws : List Val} {xs ys : List V}, Rels S vs xs → Rels S ws ys → Rels S (vs ++ ws) (xs ++ ys)
  | [], _, _, _, h, h' => by cases h; exact h'
  | v :: r, ws, xs, ys, h, h' => by
    obtain ⟨x, t, rfl, h2, h3⟩ := h
    exact ⟨x, t ++ ys, rfl, h2, Rels.app h3 h'⟩
theorem Rels.one {S : RS} {v : Val} {x : V} (h : Rel S v x) : Rels S [v] [x] := ⟨x, [], rfl, h, rfl⟩
theorem Rels.take {S : RS} : ∀ {vs : List Val} {xs : List V} (n : Nat), Rels S vs xs → Rels S (vs.take n) (xs.take n)
  | [], _, n, h => by cases h; simp [Rels]
  | v :: r, xs, 0, h => by simp [Rels]
  | v :: r, xs, n + 1, h => by
    obtain ⟨x, t, rfl, h2, h3⟩ := h
    exact ⟨x, t.take n, rfl, h2, Rels.take n h3⟩
theorem Rels.drop {S : RS} : ∀ {vs : List Val} {xs : List V} (n : Nat), Rels S vs xs → Rels S (vs.drop n) (xs.drop n)
  | [], _, n, h => by cases h; simp [Rels]
  | v :: r, xs, 0, h => by simpa using h
  | v :: r, xs, n + 1, h => by
    obtain ⟨x, t, rfl, h2, h3⟩ := h
    simpa using Rels.drop n h3
theorem Rels.rev {S : RS} : ∀ {vs : List Val} {xs : List V}, Rels S vs xs → Rels S vs.reverse xs.reverse
  | [], _, h => by cases h; simp [Rels]
  | v :: r, xs, h => by
    obtain ⟨x, t, rfl, h2, h3⟩ := h
    rw [List.reverse_cons, List.reverse_cons]
    exact (Rels.rev h3).app (.one h2)
theorem Rels.set {S : RS} {v : Val} {x : V} (hv : Rel S v x) : ∀ {vs : List Val} {xs : List V} (n : Nat), Rels S vs xs → Rels S (vs.set n v) (xs.set n x)
  | [], _, n, h => by cases h; simp [Rels]
  | w :: r, xs, 0, h => by
    obtain ⟨y, t, rfl, h2, h3⟩ := h
    exact ⟨x, t, rfl, hv, h3⟩
  | w :: r, xs, n + 1, h => by
    obtain ⟨y, t, rfl, h2, h3⟩ := h
    exact ⟨y, t.set n x, rfl, h2, Rels.set hv n h3⟩
theorem Rels.erase {S : RS} : ∀ {vs : List Val} {xs : List V} (n : Nat), Rels S vs xs → Rels S (vs.eraseIdx n) (xs.eraseIdx n)
  | [], _, n, h => by cases h; simp [Rels]
  | w :: r, xs, 0, h => by
    obtain ⟨y, t, rfl, h2, h3⟩ := h
    exact h3
  | w :: r, xs, n + 1, h => by
    obtain ⟨y, t, rfl, h2, h3⟩ := h
    exact ⟨y, t.eraseIdx n, rfl, h2, Rels.erase n h3⟩
theorem Rels.init {S : RS} : ∀ {vs : List Val} {xs : List V}, Rels S vs xs → Rels S vs.dropLast xs.dropLast
  | [], _, h => by cases h; simp [Rels]
  | [v], xs, h => by
    obtain ⟨y, t, rfl, h2, h3⟩ := h
    cases h3; simp [Rels]
  | v :: w :: r, xs, h => by
    obtain ⟨y, t, rfl, h2, h3⟩ := h
    have h4 := Rels.init h3
    obtain ⟨z, u, rfl, _, _⟩ := h3
    exact ⟨y, (z :: u).dropLast, rfl, h2, h4⟩
/-! ### slots -/
structure LRel (S : RS) (ls : Loc) (σ : L2.St) : Prop where
  len : ls.length = σ.length
  at_ : ∀ (i : Nat) (v : Val), ls[i]? = some (some v) → ∃ x, σ[i]? = some (some x) ∧ Rel S v x
theorem LRel.ext {S S' : RS} {ls : Loc} {σ : L2.St} (l : LRel S ls σ) (e : Ext S S') : LRel S' ls σ :=
  ⟨l.len, fun i v h => let ⟨x, h1, h2⟩ := l.at_ i v h; ⟨x, h1, h2.ext e⟩⟩
theorem LRel.extW {S S' : RS} {ls : Loc} {σ : L2.St} (l : LRel S ls σ) (e : ExtW S S') : LRel S' ls σ :=
  ⟨l.len, fun i v h => let ⟨x, h1, h2⟩ := l.at_ i v h; ⟨x, h1, h2.extW e⟩⟩
theorem LRel.set {S : RS} {ls : Loc} {σ : L2.St} (l : LRel S ls σ) {v : Val} {x : V} (h : Rel S v x) (i : Nat) : LRel S (ls.set i (some v)) (σ.set i (some x)) := by
  refine ⟨by simpa using l.len, fun j w e => ?_⟩
  by_cases hj : i = j
  · subst hj
    by_cases hi : i < ls.length
    · rw [List.getElem?_set_self hi] at e
      cases e
      exact ⟨x, List.getElem?_set_self (by rw [← l.len]; exact hi), h⟩
    · rw [List.getElem?_eq_none (by simpa using Nat.le_of_not_lt hi)] at e; cases e
  · rw [List.getElem?_set_ne hj] at e
    obtain ⟨y, e1, e2⟩ := l.at_ j w e
    exact ⟨y, by rw [List.getElem?_set_ne hj]; exact e1, e2⟩
theorem LRel.nul {S : RS} {ls : Loc} {σ : L2.St} (l : LRel S ls σ) (i : Nat) : LRel S (ls.set i none) σ := by
  refine ⟨by simpa using l.len, fun j w e => ?_⟩
  by_cases hj : i = j
  · subst hj
    by_cases hi : i < ls.length
    · rw [List.getElem?_set_self hi] at e; cases e
    · rw [List.getElem?_eq_none (by simpa using Nat.le_of_not_lt hi)] at e; cases e
  · rw [List.getElem?_set_ne hj] at e
    exact l.at_ j w e
theorem LRel.nul2 {S : RS} {ls : Loc} {σ : L2.St} (l : LRel S ls σ) (i : Nat) : LRel S (ls.set i none) (σ.set i none) := by
  refine ⟨by simpa using l.len, fun j w e => ?_⟩
  by_cases hj : i = j
  · subst hj
    by_cases hi : i < ls.length
    · rw [List.getElem?_set_self hi] at e; cases e
    · rw [List.getElem?_eq_none (by simpa using Nat.le_of_not_lt hi)] at e; cases e
  · rw [List.getElem?_set_ne hj] at e
    obtain ⟨y, e1, e2⟩ := l.at_ j w e
    exact ⟨y, by rw [List.getElem?_set_ne hj]; exact e1, e2⟩
theorem LRel.kill {S : RS} {σ : L2.St} : ∀ (is : List Nat) {ls : Loc}, LRel S ls σ → LRel S (killL is ls) σ
  | [], _, l => l
  | i :: r, ls, l => LRel.kill r (l.nul i)

/-! ### what may happen to the state -/
theorem Good.hso {S : RS} (g : Good S) {i : Nat} {a : Addr} (h : S.r[i]? = .some a) : ∃ o, S.H a = .some o := by
  have hi : i < S.h.length := by rw [← g.len]; exact (List.getElem?_eq_some_iff.mp h).1
  have e : S.h[i]? = .some (S.h[i]) := List.getElem?_eq_getElem hi
  have q := g.obj i _ a e h
  cases ho : S.h[i] with
  | dead => rw [ho] at q; exact q
  | list xs => rw [ho] at q; obtain ⟨vs, q, _⟩ := q; exact ⟨_, q⟩
  | dict _ _ => rw [ho] at q; obtain ⟨vs, q, _⟩ := q; exact ⟨_, q⟩
  | inst _ _ _ => rw [ho] at q; obtain ⟨dx, fs, q, _⟩ := q; exact ⟨_, q⟩
theorem ORel.ext {S S' : RS} (e : Ext S S') {a : Addr} {o : Obj} (hl : ∀ u, S.H a = .some u → S'.H a = .some u) (h : ORel S a o) : ORel S' a o := by
  cases o with
  | dead => obtain ⟨u, h⟩ := h; exact ⟨u, hl u h⟩
  | list xs => obtain ⟨vs, h1, h2⟩ := h; exact ⟨vs, hl _ h1, h2.ext e⟩
  | dict _ _ => obtain ⟨vs, h1, h2, h3⟩ := h; exact ⟨vs, hl _ h1, h2.ext e, h3.ext e⟩
  | inst _ _ _ => obtain ⟨dx, fs, h1, h2, h3, h4, h5⟩ := h; obtain ⟨k2, k3⟩ := e.keep _ _ h2 h3; exact ⟨dx, fs, by rw [e.K]; exact hl _ h1, k2, k3, h4, h5.ext e⟩
/-- a new thing that is not a mutable object -/
def RS.put (S : RS) (p : Addr) (o : HO) : RS := { S with H := upd S.H p o }
theorem live_put {S : RS} {p : Addr} {o : HO} {a : Addr} : Live (S.put p o) a ↔ Live S a := Iff.rfl
theorem Good.notLive {S : RS} (g : Good S) {p : Addr} (n : S.H p = none) : ¬ Live S p := fun l => by
  rcases l with ⟨i, o, h1, _, _⟩ | l
  · obtain ⟨u, e⟩ := g.hso h1
    rw [n] at e; cases e
  · obtain ⟨⟨u, e⟩, _⟩ := g.ow p l
    rw [n] at e; cases e
theorem ext_put {S : RS} {p : Addr} {o : HO} (n : S.H p = none) : Ext S (S.put p o) :=
  ⟨rfl, ⟨[], by simp [RS.put]⟩, fun a u e nl => ⟨by show upd S.H p o a = _; rw [upd_ne (ne_of_none e n)]; exact e, nl⟩, fun _ h => h, fun a u _ e => by show upd S.H p o a = _; rw [upd_ne (ne_of_none e n)]; exact e⟩
theorem good_put {S : RS} (g : Good S) {p : Addr} {o : HO} (n : S.H p = none) : Good (S.put p o) :=
  ⟨g.len, g.nd, fun i u a h1 h2 => (g.obj i u a h1 h2).ext (ext_put n) fun w e => by show upd S.H p o a = _; rw [upd_ne (ne_of_none e n)]; exact e,
   fun a m => let ⟨⟨u, e⟩, z⟩ := g.ow a m; ⟨⟨u, by show upd S.H p o a = _; rw [upd_ne (ne_of_none e n)]; exact e⟩, z⟩⟩
theorem put_at {S : RS} {p : Addr} {o : HO} : (S.put p o).H p = some o := upd_same
theorem rel_tup {S : RS} (g : Good S) {p : Addr} (n : S.H p = none) {vs : List Val} {xs : List V} (h : Rels S vs xs) : Rel (S.put p (.tup xs)) (.tup vs) (.ref p) :=
  ⟨p, xs, rfl, .inl ⟨.inl put_at, g.notLive n⟩, h.ext (ext_put n)⟩
theorem rel_lst {S : RS} (g : Good S) {p : Addr} (n : S.H p = none) {vs : List Val} {xs : List V} (h : Rels S vs xs) : Rel (S.put p (.lst xs)) (.list vs) (.ref p) :=
  ⟨p, xs, rfl, ⟨put_at, g.notLive n⟩, h.ext (ext_put n)⟩
theorem rel_dic {S : RS} (g : Good S) {p : Addr} (n : S.H p = none) {ks vs : List Val} {kvs : List (Key × V)} (h : Rels S ks (kvs.map fun p => kV p.1)) (h' : Rels S vs (kvs.map Prod.snd)) : Rel (S.put p (.dK kvs)) (.dict ks vs) (.ref p) :=
  ⟨p, kvs, rfl, ⟨put_at, g.notLive n⟩, h.ext (ext_put n), h'.ext (ext_put n)⟩
/-- a new mutable object -/
def RS.new (S : RS) (p : Addr) (o : HO) (u : Obj) : RS := { S with r := S.r ++ [p], h := S.h ++ [u], H := upd S.H p o }
theorem live_new {S : RS} (g : Good S) {p : Addr} {o : HO} {u : Obj} {a : Addr} (h : Live (S.new p o u) a) : Live S a ∨ a = p := by
  rcases h with ⟨i, w, h1, h2, h3⟩ | m
  case inr => exact .inl (.inr m)
  have h1' : (S.r ++ [p])[i]? = some a := h1
  have h2' : (S.h ++ [u])[i]? = some w := h2
  by_cases hi : i < S.r.length
  · rw [List.getElem?_append_left hi] at h1'
    rw [List.getElem?_append_left (by rw [← g.len]; exact hi)] at h2'
    exact .inl (.inl ⟨i, w, h1', h2', h3⟩)
  · rw [List.getElem?_append_right (Nat.le_of_not_lt hi)] at h1'
    cases hj : i - S.r.length with
    | zero => rw [hj] at h1'; simp at h1'; exact .inr h1'.symm
    | succ n => rw [hj] at h1'; simp at h1'
theorem ext_new {S : RS} (g : Good S) {p : Addr} {o : HO} {u : Obj} (n : S.H p = none) : Ext S (S.new p o u) :=
  ⟨rfl, ⟨[p], rfl⟩, fun a w e nl => ⟨by show upd S.H p o a = _; rw [upd_ne (ne_of_none e n)]; exact e, fun l => by
    rcases live_new g l with l | rfl
    · exact nl l
    · rw [n] at e; cases e⟩, fun _ h => h, fun a w _ e => by show upd S.H p o a = _; rw [upd_ne (ne_of_none e n)]; exact e⟩
theorem good_new {S : RS} (g : Good S) {p : Addr} {o : HO} {u : Obj} (n : S.H p = none) (hu : ORel (S.new p o u) p u) : Good (S.new p o u) := by
  refine ⟨by simp [RS.new, g.len], ?_, fun i w a h1 h2 => ?_, fun a m => ?_⟩
  case refine_3 =>
    obtain ⟨⟨u, e⟩, z⟩ := g.ow a m
    refine ⟨⟨u, by show upd S.H p o a = _; rw [upd_ne (ne_of_none e n)]; exact e⟩, fun hm => ?_⟩
    have hm' : a ∈ S.r ++ [p] := hm
    rcases List.mem_append.mp hm' with q | q
    · exact z q
    · rw [List.mem_singleton.mp q, n] at e; cases e
  · show (S.r ++ [p]).Nodup
    rw [List.nodup_append]
    refine ⟨g.nd, by simp, fun a ha b hb => ?_⟩
    simp at hb; subst hb
    rintro rfl
    obtain ⟨i, hi⟩ := List.getElem?_of_mem ha
    obtain ⟨v, e⟩ := g.hso hi
    rw [n] at e; cases e
  · have h1' : (S.h ++ [u])[i]? = some w := h1
    have h2' : (S.r ++ [p])[i]? = some a := h2
    by_cases hi : i < S.r.length
    · rw [List.getElem?_append_left hi] at h2'
      rw [List.getElem?_append_left (by rw [← g.len]; exact hi)] at h1'
      exact (g.obj i w a h1' h2').ext (ext_new g n) fun v e => by show upd S.H p o a = _; rw [upd_ne (ne_of_none e n)]; exact e
    · rw [List.getElem?_append_right (Nat.le_of_not_lt hi)] at h2'
      rw [List.getElem?_append_right (by rw [← g.len]; exact Nat.le_of_not_lt hi), ← g.len] at h1'
      cases hj : i - S.r.length with
      | zero =>
        rw [hj] at h1' h2'
        simp at h1' h2'
        subst h1' h2'
        exact hu
      | succ k => rw [hj] at h1'; simp at h1'
theorem rel_new {S : RS} (g : Good S) {p : Addr} {o : HO} {u : Obj} : Rel (S.new p o u) (.ref S.h.length) (.ref p) :=
  ⟨p, by show (S.r ++ [p])[S.h.length]? = _; rw [← g.len]; simp, rfl⟩
/-- a mutable object is changed -/
def RS.mut (S : RS) (n : Nat) (a : Addr) (o : HO) (u : Obj) : RS := { S with h := S.h.set n u, H := upd S.H a o }
theorem Good.inj {S : RS} (g : Good S) {i j : Nat} {a : Addr} (h1 : S.r[i]? = .some a) (h2 : S.r[j]? = .some a) : i = j := by
  obtain ⟨b1, e1⟩ := List.getElem?_eq_some_iff.mp h1
  obtain ⟨b2, e2⟩ := List.getElem?_eq_some_iff.mp h2
  exact (List.getElem_inj g.nd).mp (e1.trans e2.symm)
theorem live_mut {S : RS} {n : Nat} {a : Addr} {o : HO} {u w : Obj} (hw : S.h[n]? = some w) (wd : w ≠ .dead) {b : Addr} (h : Live (S.mut n a o u) b) : Live S b := by
  rcases h with ⟨i, v, h1, h2, h3⟩ | m
  case inr => exact .inr m
  have h2' : (S.h.set n u)[i]? = some v := h2
  by_cases hi : n = i
  · subst hi; exact .inl ⟨n, w, h1, hw, wd⟩
  · rw [List.getElem?_set_ne hi] at h2'; exact .inl ⟨i, v, h1, h2', h3⟩
theorem ext_mut {S : RS} (g : Good S) {n : Nat} {a : Addr} {o : HO} {u w : Obj} (ha : S.r[n]? = some a) (hw : S.h[n]? = some w) (wd : w ≠ .dead) : Ext S (S.mut n a o u) :=
  ⟨rfl, ⟨[], by simp [RS.mut]⟩, fun b v e nl => ⟨by
    show upd S.H a o b = _
    rw [upd_ne (fun z => nl (.inl ⟨n, w, by rw [z]; exact ha, hw, wd⟩))]; exact e, fun l => nl (live_mut hw wd l)⟩, fun _ h => h, fun b v m e => by
    show upd S.H a o b = _
    rw [upd_ne (fun z => (g.ow b m).2 (by rw [z]; exact List.mem_of_getElem? ha))]; exact e⟩
theorem good_mut {S : RS} (g : Good S) {n : Nat} {a : Addr} {o : HO} {u w : Obj} (ha : S.r[n]? = some a) (hw : S.h[n]? = some w) (wd : w ≠ .dead) (hu : ORel (S.mut n a o u) a u) : Good (S.mut n a o u) := by
  refine ⟨by simp [RS.mut, g.len], g.nd, fun i v b h1 h2 => ?_, fun b m => let ⟨⟨v, e⟩, z⟩ := g.ow b m; ⟨⟨v, (ext_mut g ha hw wd).kow b v m e⟩, z⟩⟩
  have h1' : (S.h.set n u)[i]? = some v := h1
  by_cases hi : n = i
  · subst hi
    rw [List.getElem?_set_self (List.getElem?_eq_some_iff.mp hw).1] at h1'
    cases h1'
    rw [show b = a from Option.some.inj (h2.symm.trans ha)]; exact hu
  · rw [List.getElem?_set_ne hi] at h1'
    refine (g.obj i v b h1' h2).ext (ext_mut g ha hw wd) fun x e => ?_
    show upd S.H a o b = _
    rw [upd_ne (fun z => hi (g.inj ha (show S.r[i]? = some a by rw [← z]; exact h2)))]; exact e
/-- a mutable object is frozen -/
def RS.frz (S : RS) (n : Nat) : RS := { S with h := S.h.set n .dead }
theorem not_live_frz {S : RS} (g : Good S) {n : Nat} {a : Addr} (ha : S.r[n]? = some a) : ¬ Live (S.frz n) a := by
  rintro (⟨i, v, h1, h2, h3⟩ | m)
  case inr => exact (g.ow a m).2 (List.mem_of_getElem? ha)
  have e : n = i := g.inj ha h1
  subst e
  have h2' : (S.h.set n Obj.dead)[n]? = some v := h2
  by_cases hn : n < S.h.length
  · rw [List.getElem?_set_self hn] at h2'
    exact h3 (Option.some.inj h2').symm
  · rw [List.getElem?_eq_none (by simpa using Nat.le_of_not_lt hn)] at h2'; cases h2'
theorem live_frz {S : RS} {n : Nat} {b : Addr} (h : Live (S.frz n) b) : Live S b := by
  rcases h with ⟨i, v, h1, h2, h3⟩ | m
  case inr => exact .inr m
  have h2' : (S.h.set n Obj.dead)[i]? = some v := h2
  by_cases hi : n = i
  · subst hi
    by_cases hn : n < S.h.length
    · rw [List.getElem?_set_self hn] at h2'
      exact absurd (Option.some.inj h2').symm h3
    · rw [List.getElem?_eq_none (by simpa using Nat.le_of_not_lt hn)] at h2'; cases h2'
  · rw [List.getElem?_set_ne hi] at h2'; exact .inl ⟨i, v, h1, h2', h3⟩
theorem ext_frz {S : RS} {n : Nat} : Ext S (S.frz n) := ⟨rfl, ⟨[], by simp [RS.frz]⟩, fun b v e nl => ⟨e, fun l => nl (live_frz l)⟩, fun _ h => h, fun _ _ _ e => e⟩
theorem good_frz {S : RS} (g : Good S) {n : Nat} : Good (S.frz n) := by
  refine ⟨by simp [RS.frz, g.len], g.nd, fun i v b h1 h2 => ?_, g.ow⟩
  have h1' : (S.h.set n Obj.dead)[i]? = some v := h1
  by_cases hi : n = i
  · subst hi
    by_cases hn : n < S.h.length
    · rw [List.getElem?_set_self hn] at h1'
      cases h1'
      exact g.hso h2
    · rw [List.getElem?_eq_none (by simpa using Nat.le_of_not_lt hn)] at h1'; cases h1'
  · rw [List.getElem?_set_ne hi] at h1'
    exact (g.obj i v b h1' h2).ext ext_frz fun x e => e
/-! ### a call's end: what was made is dropped -/
mutual
theorem Rel.cutS {S S0 : RS} (hK : S0.K = S.K) (hH : S0.H = S.H) (hl : ∀ a, Live S0 a → Live S a) {n : Nat} (hr : ∀ i a, i < n → S.r[i]? = some a → S0.r[i]? = some a) : ∀ {v : Val} {x : V}, Rel S v x → v.lt n = true → Rel S0 v x
  | .none, _, h, _ => h
  | .bool _, _, h, _ => h
  | .int _, _, h, _ => h
  | .str _, _, h, _ => h
  | .tup xs, x, h, q => by
    obtain ⟨a, vs, h1, h2, h3⟩ := h
    refine ⟨a, vs, h1, ?_, Rels.cutS hK hH hl hr h3 q⟩
    rcases h2 with ⟨h2, n2⟩ | h2
    · exact .inl ⟨by rw [hH]; exact h2, fun l => n2 (hl a l)⟩
    · exact .inr (by rw [hK]; exact h2)
  | .list xs, x, h, q => by
    obtain ⟨a, vs, h1, ⟨h2, n2⟩, h3⟩ := h
    exact ⟨a, vs, h1, ⟨by rw [hH]; exact h2, fun l => n2 (hl a l)⟩, Rels.cutS hK hH hl hr h3 q⟩
  | .dict ks vs, _, h, q => by
    obtain ⟨a, kvs, h1, ⟨h2, n2⟩, h3, h4⟩ := h
    have q' := Bool.and_eq_true_iff.mp q
    exact ⟨a, kvs, h1, ⟨by rw [hH]; exact h2, fun l => n2 (hl a l)⟩, Rels.cutS hK hH hl hr h3 q'.1, Rels.cutS hK hH hl hr h4 q'.2⟩
  | .obj _ _ _, _, h, _ => h.elim
  | .ref m, x, h, q => by
    obtain ⟨a, h1, h2⟩ := h
    exact ⟨a, hr m a (of_decide_eq_true q) h1, h2⟩
  | .fn _, _, h, _ => h.elim
  | .cls _, _, h, _ => h.elim
  | .ty _, _, h, _ => h.elim
  | .scr xs, x, h, q => by
    obtain ⟨a, vs, h1, h2, h3⟩ := h
    refine ⟨a, vs, h1, ?_, Rels.cutS hK hH hl hr h3 q⟩
    rcases h2 with ⟨o, h2, n2⟩ | h2
    · exact .inl ⟨o, by rw [hH]; exact h2, fun l => n2 (hl a l)⟩
    · exact .inr (by rw [hK]; exact h2)
theorem Rels.cutS {S S0 : RS} (hK : S0.K = S.K) (hH : S0.H = S.H) (hl : ∀ a, Live S0 a → Live S a) {n : Nat} (hr : ∀ i a, i < n → S.r[i]? = some a → S0.r[i]? = some a) : ∀ {vs : List Val} {xs : List V}, Rels S vs xs → Val.lts n vs = true → Rels S0 vs xs
  | [], _, h, _ => h
  | v :: r, xs, h, q => by
    obtain ⟨x, t, h1, h2, h3⟩ := h
    have q' := Bool.and_eq_true_iff.mp q
    exact ⟨x, t, h1, Rel.cutS hK hH hl hr h2 q'.1, Rels.cutS hK hH hl hr h3 q'.2⟩
end
mutual
/-- what stands for something needs no later number -/
theorem Rel.lt {S : RS} : ∀ {v : Val} {x : V}, Rel S v x → v.lt S.r.length = true
  | .none, _, _ => rfl
  | .bool _, _, _ => rfl
  | .int _, _, _ => rfl
  | .str _, _, _ => rfl
  | .tup xs, x, h => by
    obtain ⟨a, vs, h1, h2, h3⟩ := h
    exact Rels.lt h3
  | .list xs, x, h => by
    obtain ⟨a, vs, h1, h2, h3⟩ := h
    exact Rels.lt h3
  | .dict _ _, _, h => by
    obtain ⟨a, kvs, h1, h2, h3, h4⟩ := h
    exact Bool.and_eq_true_iff.mpr ⟨Rels.lt h3, Rels.lt h4⟩
  | .obj _ _ _, _, h => h.elim
  | .ref m, x, h => by
    obtain ⟨a, h1, h2⟩ := h
    exact decide_eq_true (List.getElem?_eq_some_iff.mp h1).1
  | .fn _, _, h => h.elim
  | .cls _, _, h => h.elim
  | .ty _, _, h => h.elim
  | .scr xs, x, h => by
    obtain ⟨a, vs, h1, h2, h3⟩ := h
    exact Rels.lt h3
theorem Rels.lt {S : RS} : ∀ {vs : List Val} {xs : List V}, Rels S vs xs → Val.lts S.r.length vs = true
  | [], _, _ => rfl
  | v :: r, xs, h => by
    obtain ⟨x, t, h1, h2, h3⟩ := h
    exact Bool.and_eq_true_iff.mpr ⟨Rel.lt h2, Rels.lt h3⟩
end
theorem ORel.lt {S : RS} {a : Addr} {o : Obj} (h : ORel S a o) : o.lt S.r.length = true := by
  cases o with
  | dead => rfl
  | list xs => obtain ⟨vs, _, h⟩ := h; exact h.lt
  | dict _ _ => obtain ⟨vs, _, h, h'⟩ := h; exact Bool.and_eq_true_iff.mpr ⟨h.lt, h'.lt⟩
  | inst _ _ _ => obtain ⟨dx, fs, _, _, _, _, h⟩ := h; exact h.lt
theorem osame_eq {o u : Obj} (h : Obj.same o u = true) : o = u := by
  cases o <;> cases u <;> simp [Obj.same] at h
  · rfl
  · rw [sames_eq h]
  · rw [sames_eq h.1, sames_eq h.2]
  · rw [h.1.1, h.1.2, sames_eq h.2]
theorem okDrop_at {n : Nat} : ∀ {h h' : Heap}, okDrop n h h' = true → h.length ≤ h'.length ∧ ∀ (i : Nat) (o o' : Obj), h[i]? = some o → h'[i]? = some o' → o = o' ∨ o'.lt n = true
  | [], _, _ => ⟨Nat.zero_le _, fun i o o' e => by simp at e⟩
  | o :: h, [], q => by cases q
  | o :: h, o' :: h', q => by
    have q' := Bool.and_eq_true_iff.mp (show ((Obj.same o o' || o'.lt n) && okDrop n h h') = true from q)
    obtain ⟨l, a⟩ := okDrop_at q'.2
    refine ⟨Nat.succ_le_succ l, fun i u u' e e' => ?_⟩
    cases i with
    | zero =>
      simp at e e'
      subst e e'
      rcases Bool.or_eq_true_iff.mp q'.1 with z | z
      · exact .inl (osame_eq z)
      · exact .inr z
    | succ i => exact a i u u' (by simpa using e) (by simpa using e')
/-- the state behind a call that drops -/
theorem drop_ok {S S' : RS} (g : Good S) (g' : Good S') (e : Ext S S') (q : okDrop S.h.length S.h S'.h = true) : Good { S' with r := S.r, h := S'.h.take S.h.length } ∧ Ext S { S' with r := S.r, h := S'.h.take S.h.length } ∧
    ∀ v x, Rel S' v x → v.lt S.h.length = true → Rel { S' with r := S.r, h := S'.h.take S.h.length } v x := by
  obtain ⟨l, at_⟩ := okDrop_at q
  obtain ⟨t, hp⟩ := e.pre
  have hl : ∀ a, Live { S' with r := S.r, h := S'.h.take S.h.length } a → Live S' a := fun a l => l.elim (fun ⟨i, o, h1, h2, h3⟩ =>
    .inl ⟨i, o, e.at h1, (by
      have h2' : (S'.h.take S.h.length)[i]? = some o := h2
      rw [List.getElem?_take] at h2'
      split at h2'
      · exact h2'
      · exact nomatch h2'), h3⟩) fun m => .inr m
  have hr : ∀ (i : Nat) (a : Addr), i < S.h.length → S'.r[i]? = some a → S.r[i]? = some a := fun i a hi h => by
    rw [hp, List.getElem?_append_left (by rw [g.len]; exact hi)] at h; exact h
  have back : ∀ v x, Rel S' v x → v.lt S.h.length = true → Rel { S' with r := S.r, h := S'.h.take S.h.length } v x := fun v x h k => Rel.cutS (S := S') (S0 := { S' with r := S.r, h := S'.h.take S.h.length }) rfl rfl hl hr h k
  have backs : ∀ v x, Rels S' v x → Val.lts S.h.length v = true → Rels { S' with r := S.r, h := S'.h.take S.h.length } v x := fun v x h k => Rels.cutS (S := S') (S0 := { S' with r := S.r, h := S'.h.take S.h.length }) rfl rfl hl hr h k
  refine ⟨⟨?_, g.nd, fun i o a h1 h2 => ?_, fun a m => ⟨(g'.ow a m).1, fun hm => (g'.ow a m).2 (by obtain ⟨t, q⟩ := e.pre; rw [q]; exact List.mem_append_left _ hm)⟩⟩, ⟨e.K, ⟨[], by simp⟩, fun a o h n => ?_, e.sub, e.kow⟩, back⟩
  · show S.r.length = (S'.h.take S.h.length).length
    rw [List.length_take, g.len]; omega
  · have h1' : (S'.h.take S.h.length)[i]? = some o := h1
    rw [List.getElem?_take] at h1'
    split at h1'
    · rename_i hi
      have q1 := g'.obj i o a h1' (e.at h2)
      have lt : o.lt S.h.length = true := by
        have hi' : S.h[i]? = some S.h[i] := List.getElem?_eq_getElem hi
        rcases at_ i _ o hi' h1' with z | z
        · rw [← z]
          have z2 := (g.obj i _ a hi' h2).lt
          rw [g.len] at z2; exact z2
        · exact z
      cases o with
      | dead => exact q1
      | list xs => obtain ⟨vs, q2, q3⟩ := q1; exact ⟨vs, q2, backs _ _ q3 lt⟩
      | dict _ _ => obtain ⟨vs, q2, q3, q4⟩ := q1; exact ⟨vs, q2, backs _ _ q3 (Bool.and_eq_true_iff.mp lt).1, backs _ _ q4 (Bool.and_eq_true_iff.mp lt).2⟩
      | inst _ _ _ => obtain ⟨dx, fs, q2, q3, q4, q5, q6⟩ := q1; exact ⟨dx, fs, q2, q3, fun l => q4 (hl _ l), q5, backs _ _ q6 lt⟩
    · cases h1'
  · obtain ⟨h1, n1⟩ := e.keep a o h n
    exact ⟨h1, fun z => n1 (hl a z)⟩
end M
namespace M
open PySem PySem.Spec PyProof.Rows L2
/-- what is wanted of an outcome -/
def PostG {A B : Type} (R : RS → A → B → Prop) (S : RS) (r : Res A) (Q : B → Hp → Prop) : Prop := match r with
  | .ok a h => ∀ S' b, S'.h = h → Good S' → Ext S S' → R S' a b → Q b S'.H
  | .exc _ _ => False
  | .stuck => False
abbrev Post := PostG Rel
theorem PostG.ext {A B : Type} {R : RS → A → B → Prop} {S S' : RS} {r : Res A} {Q : B → Hp → Prop} (p : PostG R S r Q) (e : Ext S S') : PostG R S' r Q := by
  cases r with
  | ok a h => exact fun S2 b h2 g2 e2 r2 => p S2 b h2 g2 (e.trans e2) r2
  | exc _ _ => exact p
  | stuck => exact p
theorem PostG.bind {A B C D : Type} {R : RS → A → B → Prop} {R' : RS → C → D → Prop} {S : RS} {r : Res A} {g : A → Heap → Res C} {Q : D → Hp → Prop} {Z : B → Hp → Prop} (p : PostG R' S (r.bind g) Q)
    (k : ∀ a b S1, r = .ok a S1.h → Good S1 → Ext S S1 → R S1 a b → PostG R' S1 (g a S1.h) Q → Z b S1.H) : PostG R S r Z := by
  cases r with
  | ok a h =>
    intro S1 b h1 g1 e1 r1
    subst h1
    exact k a b S1 rfl g1 e1 r1 (PostG.ext (r := g a S1.h) p e1)
  | exc _ _ => exact p
  | stuck => exact p
theorem PostG.imp {A B : Type} {R : RS → A → B → Prop} {S : RS} {r : Res A} {Q Q' : B → Hp → Prop} (p : PostG R S r Q) (k : ∀ b H, Q b H → Q' b H) : PostG R S r Q' := by
  cases r with
  | ok a h => exact fun S2 b h2 g2 e2 r2 => k _ _ (p S2 b h2 g2 e2 r2)
  | exc _ _ => exact p
  | stuck => exact p
/-- a value at once -/
theorem PostG.here {A B : Type} {R : RS → A → B → Prop} {S : RS} {a : A} {b : B} {Q : B → Hp → Prop} (p : PostG R S (.ok a S.h) Q) (g : Good S) (r : R S a b) : Q b S.H := p S b rfl g .refl r
/-- the reading of a piece -/
def tG {A B : Type} (K : PySem.W.Frag) (R : RS → A → B → Prop) (f : Loc → Heap → Res A) : L2.St → Hp → (B → Hp → Prop) → Prop := fun σ H Q =>
  ∃ S ls, S.K = K ∧ S.H = H ∧ Good S ∧ LRel S ls σ ∧ PostG R S (f ls S.h) Q
abbrev tM (K : PySem.W.Frag) (f : Loc → Heap → Res Val) : TE := tG K Rel f
def RB (_ : RS) (b c : Bool) : Prop := c = b
abbrev tB (K : PySem.W.Frag) (f : Loc → Heap → Res Bool) : TT := tG K RB f
abbrev tAs (K : PySem.W.Frag) (f : Loc → Heap → Res (List Val)) : TA := tG K Rels f
theorem PE.wk {X : Cx} {e : Expr} {t t' : TE} (h : PE X e t) (w : ∀ σ H Q, t' σ H Q → t σ H Q) : PE X e t' := ⟨fun pins s σ H Q I q => h.run pins s σ H Q I (w σ H Q q)⟩
theorem PT.wk {X : Cx} {e : Expr} {t t' : TT} (h : PT X e t) (w : ∀ σ H Q, t' σ H Q → t σ H Q) : PT X e t' := ⟨fun pins s σ H Q I q => h.run pins s σ H Q I (w σ H Q q)⟩
theorem PW.wk {X : Cx} {e : Expr} {t t' : TT} (h : PW X e t) (w : ∀ σ H Q, t' σ H Q → t σ H Q) : PW X e t' := ⟨fun wh pins s σ H Q I q => h.run wh pins s σ H Q I (w σ H Q q)⟩
theorem PA.wk {X : Cx} {e : List Expr} {t t' : TA} (h : PA X e t) (w : ∀ σ H Q, t' σ H Q → t σ H Q) : PA X e t' := ⟨fun p pins s σ H Q I q => h.run p pins s σ H Q I (w σ H Q q)⟩
theorem PS.wk {X : Cx} {e : Stmt} {t t' : L2.TS} (h : PS X e t) (w : ∀ D σ H, t' D σ H → t D σ H) : PS X e t' := ⟨fun pins s σ H Q I q => h.run pins s σ H Q I (w Q σ H q)⟩
theorem PSs.wk {X : Cx} {e : List Stmt} {t t' : L2.TS} (h : PSs X e t) (w : ∀ D σ H, t' D σ H → t D σ H) : PSs X e t' := ⟨fun pins s σ H Q I q => h.run pins s σ H Q I (w Q σ H q)⟩
/-- first f, then what its outcome asks -/
theorem tG.seq {A B C D : Type} {K : PySem.W.Frag} {R : RS → A → B → Prop} {R' : RS → C → D → Prop} {f : Loc → Heap → Res A} {g : Loc → A → Heap → Res C} {σ : L2.St} {H : Hp} {Q : D → Hp → Prop} {Z : B → Hp → Prop}
    (h : tG K R' (fun ls h => (f ls h).bind (g ls)) σ H Q)
    (k : ∀ a b S1 ls, S1.K = K → Good S1 → LRel S1 ls σ → R S1 a b → PostG R' S1 (g ls a S1.h) Q → Z b S1.H) : tG K R f σ H Z := by
  obtain ⟨S, ls, hK, hH, g0, l0, p⟩ := h
  exact ⟨S, ls, hK, hH, g0, l0, PostG.bind p fun a b S1 _ g1 e1 r1 p1 => k a b S1 ls (e1.K.trans hK) g1 (l0.ext e1) r1 p1⟩
theorem tG.mk {A B : Type} {K : PySem.W.Frag} {R : RS → A → B → Prop} {f : Loc → Heap → Res A} {σ : L2.St} {Q : B → Hp → Prop} {S : RS} {ls : Loc} (hK : S.K = K) (g : Good S) (l : LRel S ls σ) (p : PostG R S (f ls S.h) Q) : tG K R f σ S.H Q :=
  ⟨S, ls, hK, rfl, g, l, p⟩
theorem toS_cps (s : T) : (toS s).cps.toList = s := by simp [toS]
theorem toS_len (s : T) : (toS s).length = s.length := by simp [toS, Str.length]
theorem toS_inj {s t : T} (h : toS s = toS t) : s = t := by
  have e := congrArg (fun z : Str => z.cps.toList) h
  simpa [toS] using e
theorem toS_app (s t : T) : toS s ++ toS t = toS (s ++ t) := by
  show (⟨_⟩ : Str) = ⟨_⟩
  simp [toS]
theorem SL_eq : SL = sizeLine := by first | rfl | (rw [sizeLine_eq]; rfl)
/-! ### names and constants -/
section
variable {X : Cx}
/-- a constant's value -/
def cV : Val → Option V
  | .none => some .non
  | .bool b => some (.bl b)
  | .int i => some (.int i)
  | .str s => if asc s then some (.str (toS s)) else none
  | _ => none
theorem cV_rel {S : RS} {v : Val} {x : V} (h : cV v = some x) : Rel S v x := by
  cases v with
  | none => cases h; rfl
  | bool b => cases h; rfl
  | int i => cases h; rfl
  | str s =>
    unfold cV at h
    simp only at h
    split at h
    · rename_i ha; cases h; exact ⟨rfl, ha⟩
    · cases h
  | _ => cases h
theorem pe_lit {e : Expr} {v : Val} {x : V} (h : PE X e (tC x)) (hv : cV v = some x) : PE X e (tM X.K fun _ h => .ok v h) := by
  refine PE.wk h fun σ H Q q => ?_
  obtain ⟨S, ls, hK, hH, g, l, p⟩ := q
  subst hH
  exact PostG.here p g (cV_rel hv)
theorem pe_vr {i : Nat} {x : Str} {pos : Pos} (hN : X.N[i]? = some x) (hv : Vis X.env.scope x) (hd : (x == ("__debug__" : Str)) = false) (hcd : (x == ("__classdict__" : Str)) = false) :
    PE X (.Name x pos) (tM X.K fun ls h => match ls[i]? with
      | some (some v) => .ok v h
      | _ => .stuck) := by
  refine PE.wk (pe_var hN hv hd hcd) fun σ H Q q => ?_
  obtain ⟨S, ls, hK, hH, g, l, p⟩ := q
  subst hH
  simp only at p
  cases e : ls[i]? with
  | none => rw [e] at p; exact p.elim
  | some o =>
    cases o with
    | none => rw [e] at p; exact p.elim
    | some v =>
      rw [e] at p
      obtain ⟨y, e1, r⟩ := l.at_ i v e
      exact ⟨y, e1, PostG.here p g r⟩
/-! ### arguments -/
theorem pa_nilM : PA X [] (tAs X.K fun _ h => .ok [] h) := by
  refine PA.wk pa_nil fun σ H Q q => ?_
  obtain ⟨S, ls, hK, hH, g, l, p⟩ := q
  subst hH
  exact PostG.here p g (show Rels S [] [] from rfl)
theorem pa_consM {e : Expr} {es : List Expr} {f : Loc → Heap → Res Val} {fs : Loc → Heap → Res (List Val)} (ha : PE X e (tM X.K f)) (hr : PA X es (tAs X.K fs)) (hs : starEach (e :: es) X.env = (false, eval e X.env) :: starEach es X.env) :
    PA X (e :: es) (tAs X.K fun ls h => (f ls h).bind fun v h => (fs ls h).bind fun vs h => .ok (v :: vs) h) := by
  refine PA.wk (pa_cons ha hr hs) fun σ H Q q => ?_
  refine tG.seq (g := fun ls v h => (fs ls h).bind fun vs h => .ok (v :: vs) h) q fun v x S1 ls hK g1 l1 r1 p1 => ?_
  exact tG.mk hK g1 l1 (PostG.bind p1 fun vs xs S2 _ g2 e2 r2 p2 => PostG.here p2 g2 ⟨x, xs, rfl, r1.ext e2, r2⟩)
end
end M
namespace M
open PySem PySem.Spec PyProof.Rows L2
/-! ### what the parts of an operation are -/
def LstAt (S : RS) (x : V) (xs : List Val) : Prop := ∃ a ys, x = .ref a ∧ S.H a = some (.lst ys) ∧ Rels S xs ys
def TupAt (S : RS) (x : V) (xs : List Val) : Prop := ∃ a ys, x = .ref a ∧ SqT S.K S.H a ys ∧ Rels S xs ys
def DicAt (S : RS) (x : V) (ks vs : List Val) : Prop := ∃ a kvs, x = .ref a ∧ S.H a = some (.dK kvs) ∧ Rels S ks (kvs.map fun p => kV p.1) ∧ Rels S vs (kvs.map Prod.snd)
def DAt (S : RS) (x : V) : Val → Prop
  | .dict ks vs => DicAt S x ks vs
  | .list xs => LstAt S x xs
  | .tup xs => TupAt S x xs
  | .obj _ _ _ => False
  | .ref _ => False
  | w => Rel S w x
theorem dr_rel {S : RS} (g : Good S) {v w : Val} {x : V} (r : Rel S v x) (e : dr S.h v = some w) : DAt S x w := by
  cases v with
  | none => cases e; exact r
  | bool _ => cases e; exact r
  | int _ => cases e; exact r
  | str _ => cases e; exact r
  | tup xs =>
    cases e
    obtain ⟨a, ys, rfl, f, r⟩ := r
    exact ⟨a, ys, rfl, f.sq, r⟩
  | list xs =>
    cases e
    obtain ⟨a, ys, rfl, f, r⟩ := r
    exact ⟨a, ys, rfl, f.1, r⟩
  | dict _ _ =>
    cases e
    obtain ⟨a, kvs, rfl, f, r⟩ := r
    exact ⟨a, kvs, rfl, f.1, r⟩
  | obj _ _ _ => exact r.elim
  | fn _ => exact r.elim
  | cls _ => exact r.elim
  | ty _ => exact r.elim
  | scr xs => cases e; exact r
  | ref n =>
    obtain ⟨a, h1, rfl⟩ := r
    unfold dr at e
    simp only at e
    cases q : S.h[n]? with
    | none => rw [q] at e; cases e
    | some o =>
      rw [q] at e
      have o1 := g.obj n o a q h1
      cases o with
      | dead => cases e
      | list xs =>
        cases e
        obtain ⟨ys, h2, r⟩ := o1
        exact ⟨a, ys, rfl, h2, r⟩
      | dict ks vs =>
        cases e
        obtain ⟨kvs, h2, r⟩ := o1
        exact ⟨a, kvs, rfl, h2, r⟩
      | inst _ _ _ => cases e
theorem seq_rel {S : RS} (g : Good S) {v : Val} {x : V} {xs : List Val} (r : Rel S v x) (e : seqOf S.h v = some xs) : ∃ a ys, x = .ref a ∧ (S.H a = some (.lst ys) ∨ SqT S.K S.H a ys) ∧ Rels S xs ys := by
  unfold seqOf at e
  cases q : dr S.h v with
  | none => rw [q] at e; cases e
  | some w =>
    rw [q] at e
    have d := dr_rel g r q
    cases w with
    | list zs =>
      cases e
      obtain ⟨a, ys, rfl, h, r⟩ := d
      exact ⟨a, ys, rfl, .inl h, r⟩
    | tup zs =>
      cases e
      obtain ⟨a, ys, rfl, h, r⟩ := d
      exact ⟨a, ys, rfl, .inr h, r⟩
    | _ => cases e
theorem int2_of {S : RS} {a b : Val} {f : Int → Int → Res Val} {Q : VK} (p : Post S (int2 a b f) Q) : ∃ i j, a = .int i ∧ b = .int j ∧ Post S (f i j) Q := by
  cases a with
  | int i =>
    cases b with
    | int j => exact ⟨i, j, rfl, rfl, p⟩
    | _ => exact p.elim
  | _ => exact p.elim
theorem int1_of {S : RS} {a : Val} {f : Int → Res Val} {Q : VK} (p : Post S (int1 a f) Q) : ∃ i, a = .int i ∧ Post S (f i) Q := by
  cases a with
  | int i => exact ⟨i, rfl, p⟩
  | _ => exact p.elim
theorem str1_of {S : RS} {a : Val} {f : T → Res Val} {Q : VK} (p : Post S (str1 a f) Q) : ∃ i, a = .str i ∧ Post S (f i) Q := by
  cases a with
  | str i => exact ⟨i, rfl, p⟩
  | _ => exact p.elim
theorem bool1_of {S : RS} {a : Val} {f : Bool → Res Val} {Q : VK} (p : Post S (bool1 a f) Q) : ∃ i, a = .bool i ∧ Post S (f i) Q := by
  cases a with
  | bool i => exact ⟨i, rfl, p⟩
  | _ => exact p.elim
theorem ref1_of {S : RS} {a : Val} {f : Nat → Res Val} {Q : VK} (p : Post S (ref1 a f) Q) : ∃ i, a = .ref i ∧ Post S (f i) Q := by
  cases a with
  | ref i => exact ⟨i, rfl, p⟩
  | _ => exact p.elim
theorem optB_of {S : RS} {o : Option Bool} {Q : VK} (g : Good S) (p : Post S (optB o S.h) Q) : ∃ b, o = some b ∧ Q (.bl b) S.H := by
  cases o with
  | none => exact p.elim
  | some b => exact ⟨b, rfl, PostG.here p g rfl⟩
theorem optV_of {S : RS} {o : Option Val} {Q : VK} (p : Post S (optV o S.h) Q) : ∃ b, o = some b ∧ Post S (.ok b S.h) Q := by
  cases o with
  | none => exact p.elim
  | some b => exact ⟨b, rfl, p⟩
theorem ite_of {S : RS} {c : Prop} [Decidable c] {r : Res Val} {Q : VK} (p : Post S (if c then r else .stuck) Q) : c ∧ Post S r Q := by
  by_cases h : c
  · rw [if_pos h] at p; exact ⟨h, p⟩
  · rw [if_neg h] at p; exact p.elim
/-- new things -/
theorem new_tup {S : RS} (g : Good S) {vs : List Val} {xs : List V} {Q : VK} (r : Rels S vs xs) (p : Post S (.ok (.tup vs) S.h) Q) {q : Addr} (n : S.H q = none) : Q (.ref q) (upd S.H q (.tup xs)) :=
  p (S.put q (.tup xs)) _ rfl (good_put g n) (ext_put n) (rel_tup g n r)
theorem new_lst {S : RS} (g : Good S) {vs : List Val} {xs : List V} {Q : VK} (r : Rels S vs xs) (p : Post S (.ok (.list vs) S.h) Q) {q : Addr} (n : S.H q = none) : Q (.ref q) (upd S.H q (.lst xs)) :=
  p (S.put q (.lst xs)) _ rfl (good_put g n) (ext_put n) (rel_lst g n r)
theorem new_mut {S : RS} (g : Good S) {vs : List Val} {xs : List V} {Q : VK} (r : Rels S vs xs) (p : Post S (.ok (.ref S.h.length) (S.h ++ [.list vs])) Q) {q : Addr} (n : S.H q = none) : Q (.ref q) (upd S.H q (.lst xs)) :=
  p (S.new q (.lst xs) (.list vs)) _ rfl (good_new g n ⟨xs, upd_same, r.ext (ext_new g n)⟩) (ext_new g n) (rel_new g)
theorem okTup_of {S : RS} {vs : List Val} {Q : VK} (p : Post S (okTup vs S.h) Q) : vs.length ≤ sizeLine ∧ Post S (.ok (.tup vs) S.h) Q := by
  obtain ⟨h, p⟩ := ite_of p
  exact ⟨by rw [← SL_eq]; exact h, p⟩
theorem okList_of {S : RS} (g : Good S) {m : Bool} {vs : List Val} {xs : List V} {Q : VK} (r : Rels S vs xs) (p : Post S (okList m vs S.h) Q) : vs.length ≤ sizeLine ∧ ∀ q, S.H q = none → Q (.ref q) (upd S.H q (.lst xs)) := by
  obtain ⟨h, p⟩ := ite_of p
  refine ⟨by rw [← SL_eq]; exact h, fun q n => ?_⟩
  cases m with
  | true => exact new_mut g r p n
  | false => exact new_lst g r p n
/-- a value that stands -/
theorem old_val {S : RS} (g : Good S) {v : Val} {x : V} {Q : VK} (r : Rel S v x) (p : Post S (.ok v S.h) Q) : Q x S.H := PostG.here p g r
theorem old_int {S : RS} (g : Good S) {i : Int} {Q : VK} (p : Post S (.ok (.int i) S.h) Q) : Q (.int i) S.H := old_val g (v := .int i) (x := .int i) rfl p
theorem old_bl {S : RS} (g : Good S) {i : Bool} {Q : VK} (p : Post S (.ok (.bool i) S.h) Q) : Q (.bl i) S.H := old_val g (v := .bool i) (x := .bl i) rfl p
theorem old_non {S : RS} (g : Good S) {Q : VK} (p : Post S (.ok .none S.h) Q) : Q .non S.H := old_val g (v := .none) (x := .non) rfl p
theorem old_str {S : RS} (g : Good S) {s : T} {Q : VK} (a : asc s = true) (p : Post S (.ok (.str s) S.h) Q) : Q (.str (toS s)) S.H := old_val g (v := .str s) (x := .str (toS s)) ⟨rfl, a⟩ p
theorem tup_of {S : RS} {a : Addr} {vs : List Val} {xs : List V} (r : Rels S vs xs) (t : FzT S a xs) : Rel S (.tup vs) (.ref a) := ⟨a, xs, rfl, t, r⟩
/-! ### rules of two values -/
def PR2 (X : Cx) (p : P) (r : R2) : Prop := ∀ (S : RS) (v w : Val) (x y : V) (Q : VK), S.K = X.K → Good S → Rel S v x → Rel S w y → Post S (evP p [v, w] S.h) Q → r x y S.H Q
def PR1 (X : Cx) (p : P) (r : V → Hp → VK → Prop) : Prop := ∀ (S : RS) (v : Val) (x : V) (Q : VK), S.K = X.K → Good S → Rel S v x → Post S (evP p [v] S.h) Q → r x S.H Q
section
variable {X : Cx}
def rI2 (C : Int → Int → Prop) (f : Int → Int → Int) : R2 := rI C fun i j => .int (f i j)
/-- numbers, and truths as numbers -/
def numV : V → Option Int
  | .int i => some i
  | .bl b => some (bI b)
  | _ => none
def rNI (f : Int → Int → Int) : R2 := fun x y H Q => ∃ i j, numV x = some i ∧ numV y = some j ∧ Q (.int (f i j)) H
theorem num_of {x : V} {i : Int} (h : numV x = some i) : x = .int i ∨ ∃ b, x = .bl b ∧ i = bI b := by
  cases x <;> first | (cases h; exact .inl rfl) | (cases h; exact .inr ⟨_, rfl, rfl⟩) | cases h
theorem op_addN : OpR X (binaryOp .Add) (rNI fun i j => i + j) := by
  intro pins s σ H x y v u Q I rx ry h
  obtain ⟨i, j, hi, hj, q⟩ := h
  rcases num_of hi with rfl | ⟨a, rfl, rfl⟩ <;> rcases num_of hj with rfl | ⟨b, rfl, rfl⟩
  · obtain ⟨t, rfl⟩ := rx
    obtain ⟨t', rfl⟩ := ry
    exact add_int ⟨.int _, H, I.tok _, ⟨_, rfl⟩, q⟩
  · obtain ⟨t, rfl⟩ := rx
    obtain rfl : u = .bool b := ry
    exact add_int_bool ⟨.int _, H, I.tok _, ⟨_, rfl⟩, q⟩
  · obtain rfl : v = .bool a := rx
    obtain ⟨t', rfl⟩ := ry
    exact PySem.IntBool.add_bool_int ⟨.int _, H, I.tok _, ⟨_, rfl⟩, q⟩
  · obtain rfl : v = .bool a := rx
    obtain rfl : u = .bool b := ry
    exact PyProof.Rows.add_bool ⟨.int _, H, I.tok _, ⟨_, rfl⟩, q⟩
theorem op_subN : OpR X (binaryOp .Sub) (rNI fun i j => i - j) := by
  intro pins s σ H x y v u Q I rx ry h
  obtain ⟨i, j, hi, hj, q⟩ := h
  rcases num_of hi with rfl | ⟨a, rfl, rfl⟩ <;> rcases num_of hj with rfl | ⟨b, rfl, rfl⟩
  · obtain ⟨t, rfl⟩ := rx
    obtain ⟨t', rfl⟩ := ry
    exact sub_int ⟨.int _, H, I.tok _, ⟨_, rfl⟩, q⟩
  · obtain ⟨t, rfl⟩ := rx
    obtain rfl : u = .bool b := ry
    exact PySem.IntBool.sub_int_bool ⟨.int _, H, I.tok _, ⟨_, rfl⟩, q⟩
  · obtain rfl : v = .bool a := rx
    obtain ⟨t', rfl⟩ := ry
    exact PySem.IntBool.sub_bool_int ⟨.int _, H, I.tok _, ⟨_, rfl⟩, q⟩
  · obtain rfl : v = .bool a := rx
    obtain rfl : u = .bool b := ry
    exact PyProof.Rows.sub_bool ⟨.int _, H, I.tok _, ⟨_, rfl⟩, q⟩
theorem pr_sub : PR2 X .sub (rNI fun i j => i - j) := fun S v w x y Q hK g rv rw_ p => by
  cases v with
  | int i =>
    cases w with
    | int j => cases rv; cases rw_; exact ⟨_, _, rfl, rfl, old_int g p⟩
    | bool b => cases rv; cases rw_; exact ⟨_, _, rfl, rfl, old_int g p⟩
    | _ => exact (show False from p).elim
  | bool a =>
    cases w with
    | int j => cases rv; cases rw_; exact ⟨_, _, rfl, rfl, old_int g p⟩
    | bool b => cases rv; cases rw_; exact ⟨_, _, rfl, rfl, old_int g p⟩
    | _ => exact (show False from p).elim
  | _ => exact (show False from p).elim
theorem pr_fdiv : PR2 X .fdiv (rI CDiv fun i j => .int (i / j)) := fun S v w x y Q hK g rv rw_ p => by
  obtain ⟨i, j, rfl, rfl, p⟩ := int2_of (f := fun i j => if 0 < j ∧ j < 1073741824 then .ok (.int (i / j)) S.h else .stuck) p
  cases rv; cases rw_
  obtain ⟨c, p⟩ := ite_of p
  exact ⟨i, j, rfl, rfl, c, old_int g p⟩
theorem pr_mod : PR2 X .mod (rI (fun _ j => 0 < j) fun i j => .int (i % j)) := fun S v w x y Q hK g rv rw_ p => by
  obtain ⟨i, j, rfl, rfl, p⟩ := int2_of (f := fun i j => if 0 < j then .ok (.int (i % j)) S.h else .stuck) p
  cases rv; cases rw_
  obtain ⟨c, p⟩ := ite_of p
  exact ⟨i, j, rfl, rfl, c, old_int g p⟩
theorem small_ok {i : Int} (h : small i = true) : -(2 ^ 64) < i ∧ i < 2 ^ 64 := by
  have := small_iff.mp h
  omega
theorem pr_pow : PR2 X .pow (rI CPow fun i j => .int (i ^ j.toNat)) := fun S v w x y Q hK g rv rw_ p => by
  obtain ⟨i, j, rfl, rfl, p⟩ := int2_of (f := fun i j => if 0 ≤ j ∧ j ≤ 1000 ∧ small i = true then .ok (.int (i ^ j.toNat)) S.h else .stuck) p
  cases rv; cases rw_
  obtain ⟨⟨c1, c2, c3⟩, p⟩ := ite_of p
  have c4 := small_ok c3
  exact ⟨i, j, rfl, rfl, ⟨c1, by omega, by omega⟩, old_int g p⟩
/-- a + b: numbers, texts, tuples, lists -/
def rAddAll (X : Cx) : R2 := fun x y H Q => ((rNI fun i j => i + j) x y H Q ∨ (fun x y H Q => ∃ i j, x = .str i ∧ y = .str j ∧ i.length + j.length ≤ sizeLine ∧ Q (.str (i ++ j)) H) x y H Q) ∨ (rCatA X.K x y H Q ∨ rCat x y H Q)
theorem op_addAll : OpR X (binaryOp .Add) (rAddAll X) := (op_addN.or op_add_str).or (op_catA.or op_cat)
theorem asc_iff {s : T} : asc s = true ↔ (∀ c ∈ s, c < 128) ∧ s.length ≤ SL := by
  unfold asc
  rw [Bool.and_eq_true, List.all_eq_true, decide_eq_true_eq]
  exact and_congr_left' (forall_congr' fun c => imp_congr_right fun _ => by rw [decide_eq_true_eq])
theorem asc_app {s t : T} (h : asc s = true) (h' : asc t = true) (l : (s ++ t).length ≤ SL) : asc (s ++ t) = true :=
  asc_iff.mpr ⟨fun c hc => (List.mem_append.mp hc).elim ((asc_iff.mp h).1 c) ((asc_iff.mp h').1 c), l⟩
theorem pr_add : PR2 X .add (rAddAll X) := fun S v w x y Q hK g rv rw_ p => by
  have p : Post S (addV S.h v w) Q := p
  have lists : ∀ xs ys, dr S.h v = some (.list xs) → dr S.h w = some (.list ys) → Post S (okList false (xs ++ ys) S.h) Q → rAddAll X x y S.H Q := fun xs ys e1 e2 p => by
    obtain ⟨a, xa, rfl, ha, ra⟩ := dr_rel g rv e1
    obtain ⟨b, xb, rfl, hb, rb⟩ := dr_rel g rw_ e2
    obtain ⟨z, k⟩ := okList_of g (ra.app rb) p
    exact .inr (.inr ⟨a, b, xa, xb, rfl, rfl, ha, hb, by rw [← ra.len, ← rb.len, ← List.length_append]; exact z, k⟩)
  have gen : ∀ (p : Post S (match dr S.h v, dr S.h w with
    | some (.list xs), some (.list ys) => okList false (xs ++ ys) S.h
    | _, _ => .stuck) Q), rAddAll X x y S.H Q := fun p => by
    cases e1 : dr S.h v with
    | none => rw [e1] at p; exact p.elim
    | some v1 =>
      cases e2 : dr S.h w with
      | none => rw [e1, e2] at p; cases v1 <;> exact p.elim
      | some w1 =>
        rw [e1, e2] at p
        cases v1 with
        | list xs =>
          cases w1 with
          | list ys => exact lists xs ys e1 e2 p
          | _ => exact p.elim
        | _ => exact p.elim
  cases v with
  | int i =>
    cases w with
    | int j => cases rv; cases rw_; exact .inl (.inl ⟨i, j, rfl, rfl, old_int g p⟩)
    | bool b => cases rv; cases rw_; exact .inl (.inl ⟨i, _, rfl, rfl, old_int g p⟩)
    | _ => exact gen p
  | bool a =>
    cases w with
    | int j => cases rv; cases rw_; exact .inl (.inl ⟨_, j, rfl, rfl, old_int g p⟩)
    | bool b => cases rv; cases rw_; exact .inl (.inl ⟨_, _, rfl, rfl, old_int g p⟩)
    | _ => exact gen p
  | str i =>
    cases w with
    | str j =>
      obtain ⟨rfl, a1⟩ := rv
      obtain ⟨rfl, a2⟩ := rw_
      obtain ⟨z, p⟩ := ite_of p
      refine .inl (.inr ⟨_, _, rfl, rfl, ?_, ?_⟩)
      · rw [toS_len, toS_len, ← SL_eq, ← List.length_append]; exact z
      · rw [toS_app]; exact old_str g (asc_app a1 a2 z) p
    | _ => exact gen p
  | tup xs =>
    cases w with
    | tup ys =>
      obtain ⟨a, xa, rfl, fa, ra⟩ := rv
      obtain ⟨b, xb, rfl, fb, rb⟩ := rw_
      obtain ⟨z, p⟩ := okTup_of p
      refine .inr (.inl ⟨a, b, xa, xb, rfl, rfl, ?_, ?_, ?_, fun e => ?_, fun _ e => ?_, fun _ _ q n => new_tup g (ra.app rb) p n⟩)
      · rw [← hK]; exact fa.sq
      · rw [← hK]; exact fb.sq
      · rw [← ra.len, ← rb.len, ← List.length_append]; exact z
      · subst e
        have e0 : xs = [] := List.length_eq_zero_iff.mp ra.len
        subst e0
        exact old_val g (tup_of (by simpa using rb) fb) p
      · subst e
        have e0 : ys = [] := List.length_eq_zero_iff.mp rb.len
        subst e0
        exact old_val g (tup_of (by simpa using ra) fa) p
    | _ => exact gen p
  | _ => exact gen p

theorem pr_addm : PR2 X .addm (rAddAll X) := fun S v w x y Q hK g rv rw_ p => by
  have p : Post S (addM S.h v w) Q := p
  unfold addM at p
  cases e1 : dr S.h v with
  | none => rw [e1] at p; exact p.elim
  | some v1 =>
    cases e2 : dr S.h w with
    | none => rw [e1, e2] at p; cases v1 <;> exact p.elim
    | some w1 =>
      rw [e1, e2] at p
      cases v1 with
      | list xs =>
        cases w1 with
        | list ys =>
          obtain ⟨a, xa, rfl, ha, ra⟩ := dr_rel g rv e1
          obtain ⟨b, xb, rfl, hb, rb⟩ := dr_rel g rw_ e2
          obtain ⟨z, k⟩ := okList_of g (ra.app rb) p
          exact .inr (.inr ⟨a, b, xa, xb, rfl, rfl, ha, hb, by rw [← ra.len, ← rb.len, ← List.length_append]; exact z, k⟩)
        | _ => exact p.elim
      | _ => exact p.elim

/-! ### == -/
mutual
theorem dp_of {S : RS} : ∀ {v : Val} {x : V}, v.flat = true → Rel S v x → Dp S.K S.H x (toPy v)
  | .none, _, _, h => by cases h; exact .non
  | .bool b, _, _, h => by cases h; exact .bl b
  | .int i, _, _, h => by cases h; exact .int i
  | .str s, _, _, h => by obtain ⟨rfl, _⟩ := h; exact .str _
  | .tup xs, _, q, h => by
    obtain ⟨a, vs, rfl, f, r⟩ := h
    exact .tup f.sq (dps_of q r)
  | .list xs, _, q, h => by
    obtain ⟨a, vs, rfl, f, r⟩ := h
    exact .lst f.sq (dps_of q r)
  | .dict _ _, _, q, _ => by cases q
  | .obj _ _ _, _, q, _ => by cases q
  | .ref _, _, q, _ => by cases q
  | .fn _, _, q, _ => by cases q
  | .cls _, _, q, _ => by cases q
  | .ty _, _, q, _ => by cases q
  | .scr _, _, q, _ => by cases q
theorem dps_of {S : RS} : ∀ {vs : List Val} {xs : List V}, Val.flats vs = true → Rels S vs xs → DpAll S.K S.H xs (toPys vs)
  | [], _, _, h => by cases h; exact .nil
  | v :: r, _, q, h => by
    obtain ⟨x, t, rfl, h1, h2⟩ := h
    have q' := Bool.and_eq_true_iff.mp q
    exact .cons (dp_of q'.1 h1) (dps_of q'.2 h2)
end
theorem dp_dr {S : RS} (g : Good S) {v w : Val} {x : V} (r : Rel S v x) (e : dr S.h v = some w) (q : w.flat = true) : Dp S.K S.H x (toPy w) := by
  have d := dr_rel g r e
  cases w with
  | none => exact dp_of q d
  | bool _ => exact dp_of q d
  | int _ => exact dp_of q d
  | str _ => exact dp_of q d
  | list xs =>
    obtain ⟨a, ys, rfl, h, r⟩ := d
    exact .lst (.inl (.inl h)) (dps_of q r)
  | tup xs =>
    obtain ⟨a, ys, rfl, h, r⟩ := d
    exact .tup h (dps_of q r)
  | _ => cases q
end
end M
namespace M
open PySem PySem.Spec PyProof.Rows L2
section
variable {X : Cx}
/-! ### any list or tuple beside an empty one -/
def rEqN (K : PySem.W.Frag) : R2 := fun x y H Q => ∃ a b xs, x = .ref a ∧ y = .ref b ∧ ((SqT K H a xs ∧ SqT K H b []) ∨ (SqL K H a xs ∧ SqL K H b [])) ∧ Q (.bl xs.isEmpty) H
def rNeN (K : PySem.W.Frag) : R2 := fun x y H Q => ∃ a b xs, x = .ref a ∧ y = .ref b ∧ ((SqT K H a xs ∧ SqT K H b []) ∨ (SqL K H a xs ∧ SqL K H b [])) ∧ Q (.bl (!xs.isEmpty)) H
theorem emp_len {its : List Value} {xs : List V} (r : Vals xs its) : (its.length == 0) = xs.isEmpty := by
  rw [← r.length]
  cases xs <;> rfl
theorem op_eqN (hu : X.A.units < cLine) : OpR X (compareOp .Eq) (rEqN X.K) := by
  intro pins s σ H x y v u Q I rx ry h
  obtain ⟨a, b, xs, rfl, rfl, hx, q⟩ := h
  obtain rfl : v = Value.ref a := rx
  obtain rfl : u = Value.ref b := ry
  rcases hx with ⟨h1, h2⟩ | ⟨h1, h2⟩
  · obtain ⟨its, r, t, _⟩ := I.tuple h1
    obtain ⟨its2, r2, t2, _⟩ := I.tuple h2
    have e2 : its2 = [] := by cases r2; rfl
    subst e2
    refine SeqAt.eq_tupleAt (e := fun _ => true) t t2 hu (fun j z1 z2 => absurd z2 (Nat.not_lt_zero _)) ?_
    have e3 : ((List.range (min its.toArray.size ([] : List Value).toArray.size)).all (fun _ => true) && its.toArray.size == ([] : List Value).toArray.size) = xs.isEmpty := by
      rw [← emp_len r]
      simp
    rw [e3]
    exact ⟨.bl _, H, I, rfl, q⟩
  · obtain ⟨its, r, t, _⟩ := I.list h1
    obtain ⟨its2, r2, t2, _⟩ := I.list h2
    have e2 : its2 = [] := by cases r2; rfl
    subst e2
    cases xs with
    | nil =>
      have e1 : its = [] := by cases r; rfl
      subst e1
      exact SeqAt.eq_listAt (e := fun _ => true) t.isList t2.isList rfl hu (fun j z1 z2 => absurd z2 (Nat.not_lt_zero _)) ⟨.bl _, H, I, rfl, q⟩
    | cons z zs =>
      refine SeqAt.eq_list_lengthsAt t.isList t2.isList ?_ hu ⟨.bl _, H, I, rfl, q⟩
      have := r.length
      cases its with
      | nil => cases this
      | cons i is => simp
theorem op_neN (hu : X.A.units < cLine) : OpR X (compareOp .NotEq) (rNeN X.K) := by
  intro pins s σ H x y v u Q I rx ry h
  obtain ⟨a, b, xs, rfl, rfl, hx, q⟩ := h
  obtain rfl : v = Value.ref a := rx
  obtain rfl : u = Value.ref b := ry
  rcases hx with ⟨h1, h2⟩ | ⟨h1, h2⟩
  · obtain ⟨its, r, t, _⟩ := I.tuple h1
    obtain ⟨its2, r2, t2, _⟩ := I.tuple h2
    have e2 : its2 = [] := by cases r2; rfl
    subst e2
    refine SeqAt.RcNeAt.tuples (e := fun _ => true) t t2 hu (fun j z1 z2 => absurd z2 (Nat.not_lt_zero _)) X.prog X.w _ _ ?_
    have e3 : ((List.range (min its.toArray.size ([] : List Value).toArray.size)).all (fun _ => true) && its.toArray.size == ([] : List Value).toArray.size) = xs.isEmpty := by
      rw [← emp_len r]
      simp
    rw [e3]
    exact ⟨.bl _, H, I, rfl, q⟩
  · obtain ⟨its, r, t, _⟩ := I.list h1
    obtain ⟨its2, r2, t2, _⟩ := I.list h2
    have e2 : its2 = [] := by cases r2; rfl
    subst e2
    cases xs with
    | nil =>
      have e1 : its = [] := by cases r; rfl
      subst e1
      exact SeqAt.RcNeAt.lists (e := fun _ => true) t.isList t2.isList rfl hu (fun j z1 z2 => absurd z2 (Nat.not_lt_zero _)) X.prog X.w _ _ ⟨.bl _, H, I, rfl, q⟩
    | cons z zs =>
      refine SeqAt.RcNeAt.lists_lengths t.isList t2.isList ?_ hu X.prog X.w _ _ ⟨.bl _, H, I, rfl, q⟩
      have := r.length
      cases its with
      | nil => cases this
      | cons i is => simp
end
end M
namespace M
open PySem PySem.Spec PyProof.Rows L2
mutual
theorem eqv_py : ∀ {v w : Val}, v.flat = true → w.flat = true → PyData.eqv (toPy v) (toPy w) = eqv v w
  | .none, w, _, q => by cases w <;> first | rfl | cases q
  | .bool _, w, _, q => by cases w <;> first | rfl | cases q
  | .int _, w, _, q => by cases w <;> first | rfl | cases q
  | .str s, w, _, q => by
    cases w with
    | str t =>
      show (toS s == toS t) = (s == t)
      by_cases e : s = t
      · subst e; simp
      · have : ¬ toS s = toS t := fun z => e (toS_inj z)
        rw [beq_eq_false_iff_ne.mpr e, beq_eq_false_iff_ne.mpr this]
    | none => rfl
    | bool _ => rfl
    | int _ => rfl
    | tup _ => rfl
    | list _ => rfl
    | _ => cases q
  | .tup xs, w, p, q => by
    cases w with
    | tup ys => exact eqvs_py p q
    | none => rfl
    | bool _ => rfl
    | int _ => rfl
    | str _ => rfl
    | list _ => rfl
    | _ => cases q
  | .list xs, w, p, q => by
    cases w with
    | list ys => exact eqvs_py p q
    | none => rfl
    | bool _ => rfl
    | int _ => rfl
    | str _ => rfl
    | tup _ => rfl
    | _ => cases q
  | .dict _ _, _, p, _ => by cases p
  | .obj _ _ _, _, p, _ => by cases p
  | .ref _, _, p, _ => by cases p
  | .fn _, _, p, _ => by cases p
  | .cls _, _, p, _ => by cases p
  | .ty _, _, p, _ => by cases p
  | .scr _, _, p, _ => by cases p
theorem eqvs_py : ∀ {v w : List Val}, Val.flats v = true → Val.flats w = true → PyData.eqvAll (toPys v) (toPys w) = eqvs v w
  | [], w, _, _ => by cases w <;> rfl
  | v :: r, w, p, q => by
    cases w with
    | nil => rfl
    | cons u t =>
      have p' := Bool.and_eq_true_iff.mp p
      have q' := Bool.and_eq_true_iff.mp q
      show (PyData.eqv (toPy v) (toPy u) && PyData.eqvAll (toPys r) (toPys t)) = (eqv v u && eqvs r t)
      rw [eqv_py p'.1 q'.1, eqvs_py p'.2 q'.2]
end
theorem depthKv_le : ∀ {ks vs : List PyData}, PyData.depthKv (ks.zip vs) ≤ max (PyData.depthAll ks) (PyData.depthAll vs)
  | [], vs => by simp [PyData.depthKv]
  | k :: ks, [] => by simp [PyData.depthKv]
  | k :: ks, v :: vs => by
    have := @depthKv_le ks vs
    simp only [List.zip_cons_cons, PyData.depthKv, PyData.depthAll]
    omega
mutual
theorem deep_py : ∀ v : Val, (toPy v).depth ≤ v.deep
  | .none => Nat.le_refl _
  | .bool _ => Nat.le_refl _
  | .int _ => Nat.le_refl _
  | .str _ => Nat.le_refl _
  | .tup xs => Nat.succ_le_succ (deeps_py xs)
  | .list xs => Nat.succ_le_succ (deeps_py xs)
  | .dict ks vs => by
    have h1 := deeps_py ks
    have h2 := deeps_py vs
    have h3 := @depthKv_le (toPys ks) (toPys vs)
    show PyData.depthKv _ + 1 ≤ max _ _ + 1
    omega
  | .obj _ _ _ => Nat.zero_le _
  | .ref _ => Nat.zero_le _
  | .fn _ => Nat.zero_le _
  | .cls _ => Nat.zero_le _
  | .ty _ => Nat.zero_le _
  | .scr _ => Nat.zero_le _
theorem deeps_py : ∀ v : List Val, PyData.depthAll (toPys v) ≤ Val.deeps v
  | [] => Nat.le_refl _
  | v :: r => by
    have h1 := deep_py v
    have h2 := deeps_py r
    show max (toPy v).depth (PyData.depthAll (toPys r)) ≤ max v.deep (Val.deeps r)
    omega
end
theorem asc_ok {s : T} (h : asc s = true) : PyData.strOk (toS s) = true := by
  have h' := (asc_iff.mp h).1
  unfold PyData.strOk toS
  rw [Array.all_eq_true']
  intro c hc
  have := h' c (by simpa using hc)
  exact decide_eq_true (by omega)
mutual
theorem lay_py {S : RS} : ∀ {v : Val} {x : V}, v.flat = true → Rel S v x → (toPy v).canLay0 = true
  | .none, _, _, _ => rfl
  | .bool _, _, _, _ => rfl
  | .int _, _, _, _ => rfl
  | .str s, _, _, h => asc_ok h.2
  | .tup xs, _, q, h => by obtain ⟨a, vs, rfl, f, r⟩ := h; exact lays_py q r
  | .list xs, _, q, h => by obtain ⟨a, vs, rfl, f, r⟩ := h; exact lays_py q r
  | .dict _ _, _, q, _ => by cases q
  | .obj _ _ _, _, q, _ => by cases q
  | .ref _, _, q, _ => by cases q
  | .fn _, _, q, _ => by cases q
  | .cls _, _, q, _ => by cases q
  | .ty _, _, q, _ => by cases q
  | .scr _, _, q, _ => by cases q
theorem lays_py {S : RS} : ∀ {v : List Val} {x : List V}, Val.flats v = true → Rels S v x → PyData.canLayAll0 (toPys v) = true
  | [], _, _, _ => rfl
  | v :: r, _, q, h => by
    obtain ⟨x, t, rfl, h1, h2⟩ := h
    have q' := Bool.and_eq_true_iff.mp q
    exact Bool.and_eq_true_iff.mpr ⟨lay_py q'.1 h1, lays_py q'.2 h2⟩
end
theorem lay_dr {S : RS} (g : Good S) {v w : Val} {x : V} (r : Rel S v x) (e : dr S.h v = some w) (q : w.flat = true) : (toPy w).canLay0 = true := by
  have d := dr_rel g r e
  cases w with
  | none => rfl
  | bool _ => rfl
  | int _ => rfl
  | str _ => exact asc_ok d.2
  | list xs => obtain ⟨a, ys, rfl, h, r⟩ := d; exact lays_py q r
  | tup xs => obtain ⟨a, ys, rfl, h, r⟩ := d; exact lays_py q r
  | _ => cases q
theorem shaped_dr {S : RS} (g : Good S) {v w : Val} {x : V} (r : Rel S v x) (e : dr S.h v = some w) (q : w.flat = true) (d : w.deep ≤ 64) : SeqAt.shaped (toPy w) = true :=
  Bool.and_eq_true_iff.mpr ⟨lay_dr g r e q, decide_eq_true (Nat.le_trans (deep_py _) d)⟩
theorem eqV_of {S : RS} (g : Good S) {v w : Val} {x y : V} {b : Bool} (rv : Rel S v x) (rw_ : Rel S w y) (e : eqV S.h v w = some b) :
    (∃ d d', Dp S.K S.H x d ∧ Dp S.K S.H y d' ∧ SeqAt.shaped d = true ∧ SeqAt.shaped d' = true ∧ PyData.eqv d d' = b) ∨
    ∃ a c xs, x = .ref a ∧ y = .ref c ∧ ((SqT S.K S.H a xs ∧ SqT S.K S.H c []) ∨ (SqL S.K S.H a xs ∧ SqL S.K S.H c [])) ∧ xs.isEmpty = b := by
  unfold eqV at e
  cases e1 : dr S.h v with
  | none => rw [e1] at e; cases e
  | some v1 =>
    cases e2 : dr S.h w with
    | none => rw [e1, e2] at e; cases e
    | some w1 =>
      rw [e1, e2] at e
      simp only at e
      split at e
      · rename_i c
        simp only [Bool.and_eq_true, decide_eq_true_eq] at c
        obtain ⟨⟨⟨c1, c2⟩, c3⟩, c4⟩ := c
        exact .inl ⟨_, _, dp_dr g rv e1 c1, dp_dr g rw_ e2 c2, shaped_dr g rv e1 c1 c3, shaped_dr g rw_ e2 c2 c4, by rw [eqv_py c1 c2]; exact Option.some.inj e⟩
      · split at e
        · rename_i c
          have d1 := dr_rel g rv e1
          have d2 := dr_rel g rw_ e2
          have e := Option.some.inj e
          have emp : ∀ (zs : List Val) (xs : List V), Rels S zs xs → xs.isEmpty = eqvs zs [] := fun zs xs r => by
            cases zs with
            | nil => cases r; rfl
            | cons z zs => obtain ⟨_, _, rfl, _, _⟩ := r; rfl
          cases v1 with
          | tup zs =>
            cases w1 with
            | tup us =>
              cases us with
              | nil =>
                obtain ⟨a, xs, rfl, h1, r1⟩ := d1
                obtain ⟨c, ys, rfl, h2, r2⟩ := d2
                cases r2
                exact .inr ⟨a, c, xs, rfl, rfl, .inl ⟨h1, h2⟩, by rw [emp _ _ r1]; exact e⟩
              | cons _ _ => cases c
            | _ => cases c
          | list zs =>
            cases w1 with
            | list us =>
              cases us with
              | nil =>
                obtain ⟨a, xs, rfl, h1, r1⟩ := d1
                obtain ⟨c, ys, rfl, h2, r2⟩ := d2
                cases r2
                exact .inr ⟨a, c, xs, rfl, rfl, .inr ⟨.inl (.inl h1), .inl (.inl h2)⟩, by rw [emp _ _ r1]; exact e⟩
              | cons _ _ => cases c
            | _ => cases c
          | _ => cases c
        · cases e
section
variable {X : Cx}
def rEqB (K : PySem.W.Frag) : R2 := fun x y H Q => rEqD K x y H Q ∨ rEqN K x y H Q
def rNeB (K : PySem.W.Frag) : R2 := fun x y H Q => rNeD K x y H Q ∨ rNeN K x y H Q
theorem op_eqB (hu : X.A.units + 64 < cLine) : OpR X (compareOp .Eq) (rEqB X.K) := (op_eqD hu).or (op_eqN (by omega))
theorem op_neB (hu : X.A.units + 64 < cLine) : OpR X (compareOp .NotEq) (rNeB X.K) := (op_neD hu).or (op_neN (by omega))
theorem pr_eq : PR2 X .eq (rEqB X.K) := fun S v w x y Q hK g rv rw_ p => by
  obtain ⟨b, e, q⟩ := optB_of g (o := eqV S.h v w) p
  rcases eqV_of g rv rw_ e with ⟨d, d', h1, h2, h3, h4, h5⟩ | ⟨a, c, xs, h1, h2, h3, h4⟩
  · exact .inl ⟨d, d', by rw [← hK]; exact h1, by rw [← hK]; exact h2, h3, h4, by rw [h5]; exact q⟩
  · exact .inr ⟨a, c, xs, h1, h2, by rw [← hK]; exact h3, by rw [h4]; exact q⟩
theorem pr_ne : PR2 X .ne (rNeB X.K) := fun S v w x y Q hK g rv rw_ p => by
  obtain ⟨b, e, q⟩ := optB_of g (o := (eqV S.h v w).map (!·)) p
  cases e0 : eqV S.h v w with
  | none => rw [e0] at e; cases e
  | some c =>
    rw [e0] at e
    rcases eqV_of g rv rw_ e0 with ⟨d, d', h1, h2, h3, h4, h5⟩ | ⟨a, z, xs, h1, h2, h3, h4⟩
    · exact .inl ⟨d, d', by rw [← hK]; exact h1, by rw [← hK]; exact h2, h3, h4, by rw [h5, show (!c) = b from Option.some.inj e]; exact q⟩
    · exact .inr ⟨a, z, xs, h1, h2, by rw [← hK]; exact h3, by rw [h4, show (!c) = b from Option.some.inj e]; exact q⟩
/-! ### order -/
theorem ltT_iff : ∀ {s t : T}, ltT s t = decide (s < t)
  | s, [] => by cases s <;> simp [ltT]
  | [], _ :: _ => by simp [ltT]
  | a :: s, b :: t => by
    unfold ltT
    by_cases h : a < b
    · rw [if_pos h]; exact (decide_eq_true (List.cons_lt_cons_iff.mpr (.inl h))).symm
    · rw [if_neg h]
      by_cases e : a = b
      · subst e
        rw [if_pos rfl, ltT_iff]
        by_cases z : s < t
        · rw [decide_eq_true z]; exact (decide_eq_true (List.cons_lt_cons_iff.mpr (.inr ⟨rfl, z⟩))).symm
        · rw [decide_eq_false z]; refine (decide_eq_false fun q => ?_).symm
          rcases List.cons_lt_cons_iff.mp q with q | ⟨_, q⟩
          · exact h q
          · exact z q
      · rw [if_neg e]; refine (decide_eq_false fun q => ?_).symm
        rcases List.cons_lt_cons_iff.mp q with q | ⟨q, _⟩
        · exact h q
        · exact e q
theorem ltV_of {S : RS} {v w : Val} {x y : V} {b : Bool} (rv : Rel S v x) (rw_ : Rel S w y) (e : ltV v w = some b) :
    (∃ i j, x = .int i ∧ y = .int j ∧ b = decide (i < j)) ∨ ∃ i j : Str, x = .str i ∧ y = .str j ∧ b = decide (i.cps.toList < j.cps.toList) := by
  cases v with
  | int i =>
    cases w with
    | int j => cases rv; cases rw_; cases e; exact .inl ⟨i, j, rfl, rfl, rfl⟩
    | _ => cases e
  | str i =>
    cases w with
    | str j =>
      obtain ⟨rfl, _⟩ := rv; obtain ⟨rfl, _⟩ := rw_; cases e
      exact .inr ⟨_, _, rfl, rfl, by rw [toS_cps, toS_cps, ltT_iff]⟩
    | _ => cases e
  | _ => cases e
def rOrd (f : Int → Int → Bool) (h : List Nat → List Nat → Bool) : R2 := fun x y H Q => (rI0 fun i j => .bl (f i j)) x y H Q ∨ ∃ i j : Str, x = .str i ∧ y = .str j ∧ Q (.bl (h i.cps.toList j.cps.toList)) H
theorem op_ltO : OpR X (compareOp .Lt) (rOrd (fun i j => decide (i < j)) fun s t => decide (s < t)) := op_lt.or op_lt_str
theorem op_leO : OpR X (compareOp .LtE) (rOrd (fun i j => decide (i ≤ j)) fun s t => !decide (t < s)) := op_le.or op_le_str
theorem op_gtO : OpR X (compareOp .Gt) (rOrd (fun i j => decide (j < i)) fun s t => decide (t < s)) := op_gt.or op_gt_str
theorem op_geO : OpR X (compareOp .GtE) (rOrd (fun i j => decide (j ≤ i)) fun s t => !decide (s < t)) := op_ge.or op_ge_str
theorem pr_lt : PR2 X .lt (rOrd (fun i j => decide (i < j)) fun s t => decide (s < t)) := fun S v w x y Q hK g rv rw_ p => by
  obtain ⟨b, e, q⟩ := optB_of g (o := ltV v w) p
  rcases ltV_of rv rw_ e with ⟨i, j, rfl, rfl, rfl⟩ | ⟨i, j, rfl, rfl, rfl⟩
  · exact .inl ⟨i, j, rfl, rfl, q⟩
  · exact .inr ⟨i, j, rfl, rfl, q⟩
theorem pr_gt : PR2 X .gt (rOrd (fun i j => decide (j < i)) fun s t => decide (t < s)) := fun S v w x y Q hK g rv rw_ p => by
  obtain ⟨b, e, q⟩ := optB_of g (o := ltV w v) p
  rcases ltV_of rw_ rv e with ⟨i, j, rfl, rfl, rfl⟩ | ⟨i, j, rfl, rfl, rfl⟩
  · exact .inl ⟨j, i, rfl, rfl, q⟩
  · exact .inr ⟨j, i, rfl, rfl, q⟩
theorem not_lt_int {i j : Int} : (!decide (j < i)) = decide (i ≤ j) := by
  by_cases h : j < i
  · rw [decide_eq_true h, decide_eq_false (by omega)]; rfl
  · rw [decide_eq_false h, decide_eq_true (by omega)]; rfl
theorem pr_le : PR2 X .le (rOrd (fun i j => decide (i ≤ j)) fun s t => !decide (t < s)) := fun S v w x y Q hK g rv rw_ p => by
  obtain ⟨b, e, q⟩ := optB_of g (o := (ltV w v).map (!·)) p
  cases e0 : ltV w v with
  | none => rw [e0] at e; cases e
  | some c =>
    rw [e0] at e
    have e : (!c) = b := Option.some.inj e
    rcases ltV_of rw_ rv e0 with ⟨i, j, rfl, rfl, rfl⟩ | ⟨i, j, rfl, rfl, rfl⟩
    · refine .inl ⟨j, i, rfl, rfl, ?_⟩
      show Q (.bl (decide (j ≤ i))) S.H
      rw [← not_lt_int, e]; exact q
    · refine .inr ⟨j, i, rfl, rfl, ?_⟩
      show Q (.bl (!decide (i.cps.toList < j.cps.toList))) S.H
      rw [e]; exact q
theorem pr_ge : PR2 X .ge (rOrd (fun i j => decide (j ≤ i)) fun s t => !decide (s < t)) := fun S v w x y Q hK g rv rw_ p => by
  obtain ⟨b, e, q⟩ := optB_of g (o := (ltV v w).map (!·)) p
  cases e0 : ltV v w with
  | none => rw [e0] at e; cases e
  | some c =>
    rw [e0] at e
    have e : (!c) = b := Option.some.inj e
    rcases ltV_of rv rw_ e0 with ⟨i, j, rfl, rfl, rfl⟩ | ⟨i, j, rfl, rfl, rfl⟩
    · refine .inl ⟨i, j, rfl, rfl, ?_⟩
      show Q (.bl (decide (j ≤ i))) S.H
      rw [← not_lt_int, e]; exact q
    · refine .inr ⟨i, j, rfl, rfl, ?_⟩
      show Q (.bl (!decide (i.cps.toList < j.cps.toList))) S.H
      rw [e]; exact q
/-! ### in -/
def rInA (X : Cx) (n : Bool) : R2 := fun x y H Q => (∃ (c : Nat) (z : Str), x = .str ⟨#[c]⟩ ∧ y = .str z ∧ Q (.bl (n ^^ decide (c ∈ z.cps.toList))) H) ∨
  ∃ d ds, Dp X.K H x d ∧ (Dp X.K H y (.list ds) ∨ Dp X.K H y (.tuple ds)) ∧ d.canLay0 = true ∧ PyData.canLayAll0 ds = true ∧ d.depth ≤ 64 ∧ Q (.bl (n ^^ (ds.any fun z => PyData.eqv z d))) H
theorem op_inA (hu : X.A.units + 65 < cLine) : OpR X (compareOp .In) (rInA X false) := by
  intro pins s σ H x y v u Q I rx ry h
  rcases h with ⟨c, z, h1, h2, q⟩ | ⟨d, ds, h1, h2, c1, c2, dd, q⟩
  · exact op_in_sign pins s σ H x y v u Q I rx ry ⟨c, z, h1, h2, by rw [Bool.false_xor] at q; exact q⟩
  · rw [Bool.false_xor] at q
    obtain ⟨as, r1⟩ := Dp.reads I d x v h1 rx
    have room : X.A.units + 1 + min (PyData.depthAll ds) d.depth < cLine := by
      have := Nat.min_le_right (PyData.depthAll ds) d.depth
      omega
    rcases h2 with h2 | h2
    · obtain ⟨bs, r2⟩ := Dp.reads I _ y u h2 ry
      exact SeqAt.in_list_reads r2 r1 c2 c1 room ⟨.bl _, H, I, rfl, q⟩
    · obtain ⟨bs, r2⟩ := Dp.reads I _ y u h2 ry
      exact SeqAt.in_tuple_reads r2 r1 c2 c1 room ⟨.bl _, H, I, rfl, q⟩
theorem op_notInA (hu : X.A.units + 65 < cLine) : OpR X (compareOp .NotIn) (rInA X true) := by
  intro pins s σ H x y v u Q I rx ry h
  rcases h with ⟨c, z, h1, h2, q⟩ | ⟨d, ds, h1, h2, c1, c2, dd, q⟩
  · exact op_notIn_sign pins s σ H x y v u Q I rx ry ⟨c, z, h1, h2, by rw [Bool.true_xor] at q; exact q⟩
  · rw [Bool.true_xor] at q
    obtain ⟨as, r1⟩ := Dp.reads I d x v h1 rx
    have room : X.A.units + 1 + min (PyData.depthAll ds) d.depth < cLine := by
      have := Nat.min_le_right (PyData.depthAll ds) d.depth
      omega
    rcases h2 with h2 | h2
    · obtain ⟨bs, r2⟩ := Dp.reads I _ y u h2 ry
      exact SeqAt.notIn_list_reads r2 r1 c2 c1 room ⟨.bl _, H, I, rfl, q⟩
    · obtain ⟨bs, r2⟩ := Dp.reads I _ y u h2 ry
      exact SeqAt.notIn_tuple_reads r2 r1 c2 c1 room ⟨.bl _, H, I, rfl, q⟩
theorem memV_py {v : Val} (q : v.flat = true) : ∀ {l : List Val}, Val.flats l = true → ((toPys l).any fun z => PyData.eqv z (toPy v)) = memV v l
  | [], _ => rfl
  | w :: r, p => by
    have p' := Bool.and_eq_true_iff.mp p
    show (PyData.eqv (toPy w) (toPy v) || (toPys r).any fun z => PyData.eqv z (toPy v)) = (eqv w v || memV v r)
    rw [eqv_py p'.1 q, memV_py q p'.2]
theorem inV_of {S : RS} (hK : S.K = X.K) (g : Good S) {v w : Val} {x y : V} {b n : Bool} {Q : VK} (rv : Rel S v x) (rw_ : Rel S w y) (e : inV S.h v w = some b) (q : Q (.bl (n ^^ b)) S.H) : rInA X n x y S.H Q := by
  unfold inV at e
  cases e1 : dr S.h w with
  | none => rw [e1] at e; cases e
  | some w1 =>
    rw [e1] at e
    have d := dr_rel g rw_ e1
    cases w1 with
    | str z =>
      cases v with
      | str s =>
        cases s with
        | nil => cases e
        | cons c r =>
          cases r with
          | nil =>
            cases e
            obtain ⟨rfl, _⟩ := rv
            obtain ⟨rfl, _⟩ := d
            exact .inl ⟨c, toS z, rfl, rfl, by rw [toS_cps]; exact q⟩
          | cons _ _ => cases e
      | _ => cases e
    | list xs =>
      have e : (if (v.flat && Val.flats xs && decide (v.deep ≤ 64) && decide (Val.deeps xs ≤ 64)) = true then some (memV v xs) else none) = some b := e
      split at e
      · rename_i c
        simp only [Bool.and_eq_true, decide_eq_true_eq] at c
        obtain ⟨⟨⟨c1, c2⟩, c3⟩, c4⟩ := c
        obtain ⟨a, ys, rfl, h, r⟩ := d
        exact .inr ⟨toPy v, toPys xs, by rw [← hK]; exact dp_of c1 rv, .inl (.lst (.inl (.inl h)) (by rw [← hK]; exact dps_of c2 r)), lay_py c1 rv, lays_py c2 r, Nat.le_trans (deep_py _) c3, by rw [memV_py c1 c2, Option.some.inj e]; exact q⟩
      · cases e
    | tup xs =>
      have e : (if (v.flat && Val.flats xs && decide (v.deep ≤ 64) && decide (Val.deeps xs ≤ 64)) = true then some (memV v xs) else none) = some b := e
      split at e
      · rename_i c
        simp only [Bool.and_eq_true, decide_eq_true_eq] at c
        obtain ⟨⟨⟨c1, c2⟩, c3⟩, c4⟩ := c
        obtain ⟨a, ys, rfl, h, r⟩ := d
        exact .inr ⟨toPy v, toPys xs, by rw [← hK]; exact dp_of c1 rv, .inr (.tup (by rw [← hK]; exact h) (by rw [← hK]; exact dps_of c2 r)), lay_py c1 rv, lays_py c2 r, Nat.le_trans (deep_py _) c3, by rw [memV_py c1 c2, Option.some.inj e]; exact q⟩
      · cases e
    | _ => cases e
theorem pr_mem : PR2 X .mem (rInA X false) := fun S v w x y Q hK g rv rw_ p => by
  obtain ⟨b, e, q⟩ := optB_of g (o := inV S.h v w) p
  exact inV_of hK g rv rw_ e (by rw [Bool.false_xor]; exact q)
theorem pr_notmem : PR2 X .notmem (rInA X true) := fun S v w x y Q hK g rv rw_ p => by
  obtain ⟨b, e, q⟩ := optB_of g (o := (inV S.h v w).map (!·)) p
  cases e0 : inV S.h v w with
  | none => rw [e0] at e; cases e
  | some c =>
    rw [e0] at e
    exact inV_of hK g rv rw_ e0 (by rw [Bool.true_xor, show (!c) = b from Option.some.inj e]; exact q)
end
end M
namespace M
open PySem PySem.Spec PyProof.Rows L2
section
variable {X : Cx}
/-! ### products -/
theorem lit_flatten {A : Type} : ∀ (n : Nat) (s : List A), (List.replicate n s.toArray).foldl (· ++ ·) #[] = (List.replicate n s).flatten.toArray := by
  intro n s
  have gen : ∀ (n : Nat) (a : Array A), (List.replicate n s.toArray).foldl (· ++ ·) a = a ++ (List.replicate n s).flatten.toArray := by
    intro n
    induction n with
    | zero => intro a; simp
    | succ n ih => intro a; rw [List.replicate_succ, List.foldl_cons, ih, List.replicate_succ, List.flatten_cons]; simp
  rw [gen]; simp
theorem mul_toS (s : T) {j : Int} : Txt.mul (toS s) j = toS (List.replicate j.toNat s).flatten := by
  unfold Txt.mul
  by_cases h1 : j < 1
  · rw [if_pos h1, show j.toNat = 0 by omega]; rfl
  · rw [if_neg h1]
    by_cases h2 : (j == 1 || (toS s).length == 0) = true
    · rw [if_pos h2]
      rcases Bool.or_eq_true_iff.mp h2 with h2 | h2
      · rw [eq_of_beq h2]; simp
      · have : s.length = 0 := by have := eq_of_beq h2; rw [toS_len] at this; exact this
        rw [List.length_eq_zero_iff.mp this]; simp
    · rw [if_neg h2]
      show (⟨_⟩ : Str) = ⟨_⟩
      rw [show (toS s).cps = s.toArray from rfl, lit_flatten]
theorem asc_rep {s : T} (h : asc s = true) (n : Nat) (l : s.length * n ≤ SL) : asc (List.replicate n s).flatten = true := by
  refine asc_iff.mpr ⟨fun c hc => ?_, ?_⟩
  · obtain ⟨k, h1, h2⟩ := List.mem_flatten.mp hc
    rw [(List.mem_replicate.mp h1).2] at h2
    exact (asc_iff.mp h).1 c h2
  · have : ∀ n : Nat, (List.replicate n s).flatten.length = s.length * n := fun n => by
      induction n with
      | zero => rfl
      | succ n ih => rw [List.replicate_succ, List.flatten_cons, List.length_append, ih, Nat.mul_succ]; omega
    rw [this]; exact l
theorem op_mulS : OpR X (binaryOp .Mult) (fun x y H Q => ∃ (s : Str) (j : Int), x = .str s ∧ y = .int j ∧ s.length * j.toNat ≤ sizeLine ∧ j < 1000000000 ∧ -1000000000 < j ∧ Q (.str (Txt.mul s j)) H) := by
  intro pins s σ H x y v u Q I rx ry h
  obtain ⟨z, j, rfl, rfl, h1, h2, h3, q⟩ := h
  obtain ⟨t, rfl⟩ := rx
  obtain ⟨t', rfl⟩ := ry
  refine SB.mul ⟨?_, fun a b => ?_, fun a b => ?_⟩ fun tk k => ⟨.str _, H, I.tok _, ⟨_, rfl⟩, q⟩
  · rw [decide_eq_false (by omega), decide_eq_false (by omega)]; rfl
  · have hj : (1 : Int) ≤ j := by omega
    have b1 : (z.length : Int) * j ≤ 16777216 := by
      rw [sizeLine_eq] at h1
      have q := Int.ofNat_le.mpr h1
      rw [Int.natCast_mul, Int.toNat_of_nonneg (by omega)] at q
      exact q
    have b2 : (z.length : Int) ≤ (2 ^ 63 - 1) / j := by
      refine (Int.le_ediv_iff_mul_le (by omega)).mpr ?_
      exact Int.le_trans b1 (by decide)
    omega
  · show decide (z.length * j.toNat > sizeLine) = false
    exact decide_eq_false (Nat.not_lt.mpr h1)
def rMulA (X : Cx) : R2 := fun x y H Q => ((rI CMul fun i j => .int (i * j)) x y H Q ∨ (∃ (s : Str) (j : Int), x = .str s ∧ y = .int j ∧ s.length * j.toNat ≤ sizeLine ∧ j < 1000000000 ∧ -1000000000 < j ∧ Q (.str (Txt.mul s j)) H)) ∨
  (rRepT X.K x y H Q ∨ rRep x y H Q)
theorem op_mulA : OpR X (binaryOp .Mult) (rMulA X) := (op_mul.or op_mulS).or (op_repT.or op_rep)

theorem repls_rel {S : RS} {vs : List Val} {xs : List V} (r : Rels S vs xs) : ∀ n : Nat, Rels S (List.replicate n vs).flatten (List.replicate n xs).flatten
  | 0 => rfl
  | n + 1 => by rw [List.replicate_succ, List.replicate_succ, List.flatten_cons, List.flatten_cons]; exact r.app (repls_rel r n)
theorem pr_mul : PR2 X .mul (rMulA X) := fun S v w x y Q hK g rv rw_ p => by
  have p : Post S (mulV S.h v w) Q := p
  cases v with
  | int i =>
    cases w with
    | int j =>
      cases rv; cases rw_
      obtain ⟨c, p⟩ := ite_of p
      refine .inl (.inl ⟨i, j, rfl, rfl, ?_, old_int g p⟩)
      rcases Bool.or_eq_true_iff.mp c with c | c
      · exact .inl (small_ok c)
      · exact .inr (small_ok c)
    | _ => exact p.elim
  | str s =>
    cases w with
    | int j =>
      obtain ⟨rfl, a1⟩ := rv; cases rw_
      obtain ⟨⟨c1, cm⟩, p⟩ := ite_of p
      obtain ⟨c2, c3⟩ := inM_iff.mp cm
      refine .inl (.inr ⟨_, j, rfl, rfl, by rw [toS_len, ← SL_eq]; exact c1, c2, c3, ?_⟩)
      rw [mul_toS]
      exact old_str g (asc_rep a1 _ c1) p
    | _ => exact p.elim
  | tup xs =>
    cases w with
    | int j =>
      obtain ⟨a, xa, rfl, fa, ra⟩ := rv; cases rw_
      obtain ⟨⟨c1, c2, c3, c4⟩, p⟩ := ite_of p
      refine .inr (.inl ⟨a, j, xa, rfl, rfl, by rw [← hK]; exact fa.sq, fun e => ?_, c2, c3, by rw [← ra.len]; exact c4, fun q n => new_tup g (repls_rel ra _) p n⟩)
      subst e
      rw [List.length_eq_zero_iff.mp ra.len] at c1
      cases c1
    | _ => exact p.elim
  | list xs =>
    cases w with
    | int j =>
      obtain ⟨a, xa, rfl, fa, ra⟩ := rv; cases rw_
      obtain ⟨⟨c1, cm⟩, p⟩ := ite_of p
      obtain ⟨c2, c3⟩ := inM_iff.mp cm
      exact .inr (.inr ⟨a, j, xa, rfl, rfl, fa.1, by omega, by omega, by rw [← ra.len, ← SL_eq]; exact c1, fun q n => new_lst g (repls_rel ra _) p n⟩)
    | _ => exact p.elim
  | _ => exact p.elim
/-! ### places, cuts -/
theorem ixN_eq : @ixN = @L2.ixN := rfl
theorem atI_rel {S : RS} {vs : List Val} {xs : List V} {i : Int} {v : Val} (r : Rels S vs xs) (e : atI vs i = some v) : ∃ x, L2.atI xs i = some x ∧ Rel S v x := by
  unfold atI at e
  unfold L2.atI
  rw [r.len] at e
  cases q : ixN xs.length i with
  | none => rw [q] at e; cases e
  | some k =>
    rw [q] at e
    have q' : L2.ixN xs.length i = some k := q
    rw [q']
    exact r.get e
theorem pr_ix : PR2 X .ix (rIx X.K) := fun S v w x y Q hK g rv rw_ p => by
  obtain ⟨i, rfl, p⟩ := int1_of (f := fun i => optV (ixV S.h v i) S.h) p
  obtain ⟨u, e, p⟩ := optV_of p
  cases rw_
  unfold ixV at e
  cases e1 : dr S.h v with
  | none => rw [e1] at e; cases e
  | some v1 =>
    rw [e1] at e
    have d := dr_rel g rv e1
    cases v1 with
    | str s =>
      obtain ⟨rfl, a⟩ := d
      cases q : atI s i with
      | none => simp only [q] at e; cases e
      | some c =>
        simp only [q, Option.map_some, Option.some.injEq] at e
        subst e
        refine .inr (.inr ⟨toS s, i, c, rfl, rfl, by rw [toS_len, ← SL_eq]; exact (asc_iff.mp a).2, ?_, ?_⟩)
        · rw [toS_cps]; exact q
        · refine old_str (s := [c]) g (asc_iff.mpr ⟨fun c' h' => ?_, ?_⟩) p
          · rw [List.mem_singleton.mp h']
            unfold atI at q
            cases q1 : ixN s.length i with
            | none => rw [q1] at q; cases q
            | some k => rw [q1] at q; exact (asc_iff.mp a).1 c (List.mem_of_getElem? q)
          · show 1 ≤ SL; decide
    | list xs =>
      obtain ⟨a, ys, rfl, h, r⟩ := d
      obtain ⟨z, e2, r2⟩ := atI_rel r e
      exact .inl ⟨a, ys, i, z, rfl, rfl, .inl (.inl h), e2, old_val g r2 p⟩
    | tup xs =>
      obtain ⟨a, ys, rfl, h, r⟩ := d
      obtain ⟨z, e2, r2⟩ := atI_rel r e
      exact .inr (.inl ⟨a, ys, i, z, rfl, rfl, by rw [← hK]; exact h, e2, old_val g r2 p⟩)
    | _ => cases e
theorem cut_eq {A : Type} (xs : List A) (lo hi : Option Int) : cut xs lo hi = (xs.drop (HT.sIx xs.length 0 lo)).take (HT.sIx xs.length xs.length hi - HT.sIx xs.length 0 lo) := rfl
theorem cut_rel {S : RS} {vs : List Val} {xs : List V} (r : Rels S vs xs) (lo hi : Option Int) : Rels S (cut vs lo hi) (cutV xs lo hi) := by
  unfold cut cutV
  rw [r.len]
  exact (r.drop _).take _
theorem cut_len {A : Type} (xs : List A) (lo hi : Option Int) : (cut xs lo hi).length ≤ xs.length := by
  unfold cut
  rw [List.length_take, List.length_drop]; omega
theorem asc_cut {s : T} (h : asc s = true) (lo hi : Option Int) : asc (cut s lo hi) = true :=
  asc_iff.mpr ⟨fun c hc => (asc_iff.mp h).1 c (List.mem_of_mem_drop (List.mem_of_mem_take hc)), Nat.le_trans (cut_len _ _ _) (asc_iff.mp h).2⟩
def rSlAll (X : Cx) : V → Option Int → Option Int → Hp → VK → Prop := fun x lo hi H Q => rSlL X.K x lo hi H Q ∨ (rSlA X.K x lo hi H Q ∨ rSlS x lo hi H Q)
theorem sl_all : SlR X (rSlAll X) := sl_list.or (sl_tupA.or sl_str)
theorem slV_of {S : RS} {v : Val} {x : V} {lo hi : Option Int} {Q : VK} (hK : S.K = X.K) (g : Good S) (rv : Rel S v x) (p : Post S (slV S.h v lo hi) Q) : rSlAll X x lo hi S.H Q := by
  unfold slV at p
  cases e1 : dr S.h v with
  | none => rw [e1] at p; exact p.elim
  | some v1 =>
    rw [e1] at p
    have d := dr_rel g rv e1
    cases v1 with
    | scr xs =>
      obtain ⟨a, ys, rfl, h, r⟩ := d
      exact .inl ⟨a, ys, rfl, by rw [← hK]; exact h.sq, fun q n => new_lst g (cut_rel r lo hi) p n⟩
    | list xs =>
      obtain ⟨a, ys, rfl, h, r⟩ := d
      exact .inl ⟨a, ys, rfl, .inl (.inl h), fun q n => new_lst g (cut_rel r lo hi) p n⟩
    | tup xs =>
      obtain ⟨a, ys, rfl, h, r⟩ := d
      refine .inr (.inl ⟨a, ys, rfl, by rw [← hK]; exact h, fun w => ?_, fun _ q n => new_tup g (cut_rel r lo hi) p n⟩)
      have ec : cut xs lo hi = xs := by
        unfold cut
        rw [r.len]
        rw [show sIx ys.length 0 lo = 0 from w.1, show sIx ys.length ys.length hi = ys.length from w.2, ← r.len]
        simp
      have p : Post S (.ok (.tup (cut xs lo hi)) S.h) Q := p
      rw [ec] at p
      cases v with
      | tup zs =>
        cases e1
        obtain ⟨b, ys2, e2, f, _⟩ := rv
        obtain rfl : a = b := V.ref.inj e2
        exact old_val g (show Rel S (.tup xs) (.ref a) from ⟨a, ys2, rfl, f, by assumption⟩) p
      | ref n =>
        exfalso
        unfold dr at e1
        simp only at e1
        cases q : S.h[n]? with
        | none => rw [q] at e1; cases e1
        | some o => rw [q] at e1; cases o <;> cases e1
      | _ => cases e1
    | str s =>
      obtain ⟨rfl, a⟩ := d
      refine .inr (.inr ⟨toS s, rfl, by rw [toS_len, ← SL_eq]; exact (asc_iff.mp a).2, ?_⟩)
      have e : cutS (toS s) lo hi = toS (cut s lo hi) := by
        unfold cutS
        rw [toS_cps, toS_len]; rfl
      rw [e]
      exact old_str g (asc_cut a lo hi) p
    | _ => exact p.elim
theorem slM_of {S : RS} {v : Val} {x : V} {lo hi : Option Int} {Q : VK} (hK : S.K = X.K) (g : Good S) (rv : Rel S v x) (p : Post S (slM S.h v lo hi) Q) : rSlAll X x lo hi S.H Q := by
  unfold slM at p
  cases e1 : dr S.h v with
  | none => rw [e1] at p; exact p.elim
  | some v1 =>
    rw [e1] at p
    have d := dr_rel g rv e1
    cases v1 with
    | scr xs =>
      obtain ⟨a, ys, rfl, h, r⟩ := d
      obtain ⟨_, k⟩ := okList_of g (cut_rel r lo hi) p
      exact .inl ⟨a, ys, rfl, by rw [← hK]; exact h.sq, k⟩
    | list xs =>
      obtain ⟨a, ys, rfl, h, r⟩ := d
      obtain ⟨_, k⟩ := okList_of g (cut_rel r lo hi) p
      exact .inl ⟨a, ys, rfl, .inl (.inl h), k⟩
    | _ => exact p.elim
end
end M
namespace M
open PySem PySem.Spec PyProof.Rows L2
section
variable {X : Cx}
def PRc (X : Cx) (p : P) (r : List V → Hp → VK → Prop) : Prop := ∀ (S : RS) (vs : List Val) (xs : List V) (Q : VK), S.K = X.K → Good S → Rels S vs xs → Post S (evP p vs S.h) Q → r xs S.H Q
theorem one_of {S : RS} {vs : List Val} {xs : List V} {p : P} {Q : VK} (r : Rels S vs xs) (h1 : ∀ a b t, evP p (a :: b :: t) S.h = .stuck) (h0 : evP p [] S.h = .stuck) (q : Post S (evP p vs S.h) Q) : ∃ v x, vs = [v] ∧ xs = [x] ∧ Rel S v x := by
  cases vs with
  | nil => rw [h0] at q; exact q.elim
  | cons v t =>
    cases t with
    | nil =>
      obtain ⟨x, t, rfl, h, e⟩ := r
      cases e
      exact ⟨v, x, rfl, rfl, h⟩
    | cons w t => rw [h1] at q; exact q.elim
theorem two_of {S : RS} {vs : List Val} {xs : List V} {p : P} {Q : VK} (r : Rels S vs xs) (h2 : ∀ a b c t, evP p (a :: b :: c :: t) S.h = .stuck) (h1 : ∀ a, evP p [a] S.h = .stuck) (h0 : evP p [] S.h = .stuck) (q : Post S (evP p vs S.h) Q) :
    ∃ v w x y, vs = [v, w] ∧ xs = [x, y] ∧ Rel S v x ∧ Rel S w y := by
  match vs, r, q with
  | [], _, q => rw [h0] at q; exact q.elim
  | [a], _, q => rw [h1] at q; exact q.elim
  | [v, w], r, q =>
    obtain ⟨x, t, rfl, h, e⟩ := r
    obtain ⟨y, t, rfl, h', e⟩ := e
    cases e
    exact ⟨v, w, x, y, rfl, rfl, h, h'⟩
  | a :: b :: c :: t, _, q => rw [h2] at q; exact q.elim
/-! ### len -/
def rLenA (X : Cx) : List V → Hp → VK → Prop := fun xs H Q => (∃ p ys, xs = [.ref p] ∧ (SqL X.K H p ys ∨ SqT X.K H p ys) ∧ Q (.int ys.length) H) ∨ ∃ z : Str, xs = [.str z] ∧ z.length ≤ sizeLine ∧ Q (.int z.length) H
theorem call_lenA : CallR X (.builtin "len") (rLenA X) := call_len_seq.or call_len_str
theorem pr_len : PRc X .len (rLenA X) := fun S vs xs Q hK g r p => by
  obtain ⟨v, x, rfl, rfl, rv⟩ := one_of r (fun _ _ _ => rfl) rfl p
  obtain ⟨u, e, p⟩ := optV_of (o := (lenV S.h v).map fun n => .int n) p
  unfold lenV at e
  cases e1 : dr S.h v with
  | none => rw [e1] at e; cases e
  | some v1 =>
    rw [e1] at e
    have d := dr_rel g rv e1
    cases v1 with
    | str s =>
      cases e
      obtain ⟨rfl, a⟩ := d
      exact .inr ⟨_, rfl, by rw [toS_len, ← SL_eq]; exact (asc_iff.mp a).2, by rw [toS_len]; exact old_int g p⟩
    | list ys =>
      cases e
      obtain ⟨a, zs, rfl, h, r⟩ := d
      exact .inl ⟨a, zs, rfl, .inl (.inl (.inl h)), by rw [← r.len]; exact old_int g p⟩
    | tup ys =>
      cases e
      obtain ⟨a, zs, rfl, h, r⟩ := d
      exact .inl ⟨a, zs, rfl, .inr (by rw [← hK]; exact h), by rw [← r.len]; exact old_int g p⟩
    | _ => cases e
/-! ### all, any, sum -/
theorem bools_rel {S : RS} : ∀ {vs : List Val} {xs : List V} {bs : List Bool}, Rels S vs xs → boolsOf vs = some bs → xs = bs.map V.bl
  | [], _, _, h, e => by cases e; cases h; rfl
  | v :: r, _, bs, h, e => by
    obtain ⟨x, t, rfl, h1, h2⟩ := h
    cases v with
    | bool b =>
      cases h1
      unfold boolsOf at e
      cases q : boolsOf r with
      | none => rw [q] at e; cases e
      | some cs => rw [q] at e; cases e; rw [bools_rel h2 q]; rfl
    | _ => cases e
theorem ints_rel {S : RS} : ∀ {vs : List Val} {xs : List V} {bs : List Int}, Rels S vs xs → intsOf vs = some bs → xs = bs.map V.int
  | [], _, _, h, e => by cases e; cases h; rfl
  | v :: r, _, bs, h, e => by
    obtain ⟨x, t, rfl, h1, h2⟩ := h
    cases v with
    | int b =>
      cases h1
      unfold intsOf at e
      cases q : intsOf r with
      | none => rw [q] at e; cases e
      | some cs => rw [q] at e; cases e; rw [ints_rel h2 q]; rfl
    | _ => cases e
theorem texts_rel {S : RS} : ∀ {vs : List Val} {xs : List V} {bs : List T}, Rels S vs xs → textsOf vs = some bs → xs = (bs.map toS).map V.str ∧ ∀ b ∈ bs, asc b = true
  | [], _, _, h, e => by cases e; cases h; exact ⟨rfl, fun b hb => by cases hb⟩
  | v :: r, _, bs, h, e => by
    obtain ⟨x, t, rfl, h1, h2⟩ := h
    cases v with
    | str b =>
      obtain ⟨rfl, a⟩ := h1
      unfold textsOf at e
      cases q : textsOf r with
      | none => rw [q] at e; cases e
      | some cs =>
        rw [q] at e; cases e
        obtain ⟨e1, e2⟩ := texts_rel h2 q
        rw [e1]
        exact ⟨rfl, fun c hc => (List.mem_cons.mp hc).elim (fun z => by rw [z]; exact a) (e2 c)⟩
    | _ => cases e

theorem toS_of (s : Str) : toS s.cps.toList = s := rfl
theorem strR_of {S : RS} {s : Str} {Q : VK} (g : Good S) (p : Post S (strR s S.h) Q) : Q (.str s) S.H := by
  obtain ⟨a, p⟩ := ite_of p
  have h := old_str g a p
  rwa [toS_of] at h
theorem lst_rel {S : RS} (g : Good S) {v : Val} {x : V} {xs : List Val} (r : Rel S v x) (e : lstOf S.h v = some xs) : ∃ a ys, x = .ref a ∧ S.H a = some (.lst ys) ∧ Rels S xs ys := by
  unfold lstOf at e
  cases q : dr S.h v with
  | none => rw [q] at e; cases e
  | some w =>
    rw [q] at e
    have d := dr_rel g r q
    cases w with
    | list zs => cases e; exact d
    | _ => cases e
theorem bindO {A B : Type} {o : Option A} {f : A → Option B} {b : B} (h : o.bind f = some b) : ∃ a, o = some a ∧ f a = some b := by
  cases o with
  | none => cases h
  | some a => exact ⟨a, rfl, h⟩
theorem mapO {A B : Type} {o : Option A} {f : A → B} {b : B} (h : o.map f = some b) : ∃ a, o = some a ∧ f a = b := by
  cases o with
  | none => cases h
  | some a => exact ⟨a, rfl, Option.some.inj h⟩
theorem pr_all : PRc X .all (rAll X.K) := fun S vs xs Q hK g r p => by
  obtain ⟨v, x, rfl, rfl, rv⟩ := one_of r (fun _ _ _ => rfl) rfl p
  obtain ⟨u, e, q⟩ := optB_of g (o := ((lstOf S.h v).bind boolsOf).map fun (bs : List Bool) => bs.all id) p
  obtain ⟨bs, e1, rfl⟩ := mapO e
  obtain ⟨zs, e2, e3⟩ := bindO e1
  obtain ⟨a, ys, rfl, h, r⟩ := lst_rel g rv e2
  rw [bools_rel r e3] at h
  exact ⟨a, bs, rfl, .inl (.inl h), q⟩
theorem pr_any : PRc X .any (rAny X.K) := fun S vs xs Q hK g r p => by
  obtain ⟨v, x, rfl, rfl, rv⟩ := one_of r (fun _ _ _ => rfl) rfl p
  obtain ⟨u, e, q⟩ := optB_of g (o := ((lstOf S.h v).bind boolsOf).map fun (bs : List Bool) => bs.any id) p
  obtain ⟨bs, e1, rfl⟩ := mapO e
  obtain ⟨zs, e2, e3⟩ := bindO e1
  obtain ⟨a, ys, rfl, h, r⟩ := lst_rel g rv e2
  rw [bools_rel r e3] at h
  exact ⟨a, bs, rfl, .inl (.inl h), q⟩
/-- sum of a tuple -/
theorem sumT_raw {prog : Program} {w : World} {A : Around} {E : Value → Shared → Prop} {s : Shared} {t : Addr} {its : List Value} {ns : List Int} {Q : Value → Shared → Prop} (hh : A.handled = none) (ht : s.heap.IsTuple t its.toArray) (hi : IntsAre its ns)
    (h : ∀ (h' : PySem.Heap) (tk : Nat) (t' : Tok), (∀ (b : Addr) (o : PySem.Obj), s.heap.get? b = some o → h'.get? b = some o) → Q (Value.int ns.sum t') { heap := h', gens := s.gens, drawn := s.drawn, toks := tk, os := s.os }) :
    wpAny (model prog w) A (call (Value.builtin "sum") [Value.ref t]) Q E s := by
  obtain ⟨xs, e⟩ := AllInts.items (IntsAre.allInts hi)
  have hn : numsOf (intItems xs).toList = ns := by rw [← e]; exact IntsAre.numsOf hi
  rw [e] at ht
  obtain ⟨o, ho, hc, n, hd⟩ := ht
  have hlt : t < s.heap.objs.size := Heap.lt_size ho
  have h1 : (s.heap.push { cls := Value.type "tuple_iterator", data := Data.fields #[Value.ref t, Value.int 0 0] }).get? s.heap.objs.size = some { cls := Value.type "tuple_iterator", data := Data.fields #[Value.ref t, Value.int 0 0] } := PySem.Heap.get?_push_size s.heap rfl
  have h2 : ∀ (b : Addr) (u : PySem.Obj), s.heap.get? b = some u → (s.heap.push { cls := Value.type "tuple_iterator", data := Data.fields #[Value.ref t, Value.int 0 0] }).get? b = some u := fun b u hb => by
    rw [PySem.Heap.get?_push_ne _ _ _ (Nat.ne_of_lt (PySem.Heap.lt_size hb))]; exact hb
  have it : s.heap.IsTuple t (intItems xs) := ⟨o, ho, hc, n, hd⟩
  refine call_sum_walkG (wpAny_pyIter_tuple it ⟨s.heap.objs.size, [s.heap.objs.size, t], [s.heap.objs.size], (intItems xs).size, fun i v => (intItems xs)[i]? = some v, fun i h => h.IsTupleIter s.heap.objs.size t i ∧ h.IsTuple t (intItems xs), numAt xs, rfl,
    Walks.tuple (A := A.in1) hh _ _ (Nat.ne_of_lt hlt) _, ⟨⟨_, h1, rfl, rfl⟩, ⟨o, h2 t o ho, hc, n, hd⟩⟩, fun b hb => ?_, fun i v => intItems_at, fun h' tk t' hk => ?_⟩)
  · show b < (s.heap.push _).objs.size
    rw [PySem.Heap.size_push]
    rcases List.mem_cons.mp hb with rfl | hb
    · exact Nat.lt_succ_self _
    · rw [List.mem_singleton.mp hb]; exact Nat.lt_succ_of_lt hlt
  · have q := h h' tk t' fun b u hb => hk b u (fun z => by
      have := PySem.Heap.lt_size hb
      rw [List.mem_singleton.mp z] at this
      exact Nat.lt_irrefl _ this) (h2 b u hb)
    rw [preSum_eq, List.take_of_length_le (by rw [List.length_map, intItems, Array.size_map]; exact Nat.le_refl _), ← nums_intItems, hn]
    exact q
def rSumA (K : PySem.W.Frag) : List V → Hp → VK → Prop := fun vs H Q => rSum K vs H Q ∨ ∃ (a : Addr) (ns : List Int), vs = [V.ref a] ∧ SqT K H a (ns.map V.int) ∧ Q (.int ns.sum) H
theorem cr_sumA {X : Cx} (hc : X.calm = true) : CallR X (Value.builtin "sum") (rSumA X.K) := fun pins s σ H vs us Q I r h => by
  rcases h with h | ⟨a, ns, rfl, ht, q⟩
  · exact cr_sum hc pins s σ H vs us Q I r h
  · obtain ⟨its, rv, hl, _⟩ := I.tuple ht
    rw [Vals.ref1 r]
    exact sumT_raw (I.ok.hd hc) hl (Vals.ints rv) fun h' tk t' hk => ⟨V.int ns.sum, H, I.kept hk, ⟨t', rfl⟩, q⟩
theorem pr_sum : PRc X .sum (rSumA X.K) := fun S vs xs Q hK g r p => by
  obtain ⟨v, x, rfl, rfl, rv⟩ := one_of r (fun _ _ _ => rfl) rfl p
  obtain ⟨u, e, q⟩ := optV_of (o := ((seqOf S.h v).bind intsOf).map fun is => .int is.sum) p
  obtain ⟨bs, e1, rfl⟩ := mapO e
  obtain ⟨zs, e2, e3⟩ := bindO e1
  obtain ⟨a, ys, rfl, h, r⟩ := seq_rel g rv e2
  rw [ints_rel r e3] at h
  rcases h with h | h
  · exact .inl ⟨a, bs, rfl, .inl (.inl h), old_int g q⟩
  · exact .inr ⟨a, bs, rfl, by rw [← hK]; exact h, old_int g q⟩
theorem minI_ok : ∀ (r : List Int) (i : Int), minI i r ∈ i :: r ∧ ∀ y ∈ i :: r, minI i r ≤ y
  | [], i => ⟨List.mem_singleton.mpr rfl, fun y hy => by rw [List.mem_singleton.mp hy]; exact Int.le_refl _⟩
  | j :: r, i => by
    obtain ⟨h1, h2⟩ := minI_ok r (if j < i then j else i)
    have e : minI i (j :: r) = minI (if j < i then j else i) r := rfl
    rw [e]
    refine ⟨?_, fun y hy => ?_⟩
    · rcases List.mem_cons.mp h1 with h | h
      · rw [h]; split <;> simp
      · exact List.mem_cons_of_mem _ (List.mem_cons_of_mem _ h)
    · have h3 := h2 _ (List.mem_cons_self ..)
      generalize hz : minI (if j < i then j else i) r = z at h2 h3 ⊢
      rcases List.mem_cons.mp hy with h | h
      · subst h; split at h3 <;> omega
      · rcases List.mem_cons.mp h with h | h
        · subst h; split at h3 <;> omega
        · exact h2 y (List.mem_cons_of_mem _ h)
theorem maxI_ok : ∀ (r : List Int) (i : Int), maxI i r ∈ i :: r ∧ ∀ y ∈ i :: r, y ≤ maxI i r
  | [], i => ⟨List.mem_singleton.mpr rfl, fun y hy => by rw [List.mem_singleton.mp hy]; exact Int.le_refl _⟩
  | j :: r, i => by
    obtain ⟨h1, h2⟩ := maxI_ok r (if j > i then j else i)
    have e : maxI i (j :: r) = maxI (if j > i then j else i) r := rfl
    rw [e]
    refine ⟨?_, fun y hy => ?_⟩
    · rcases List.mem_cons.mp h1 with h | h
      · rw [h]; split <;> simp
      · exact List.mem_cons_of_mem _ (List.mem_cons_of_mem _ h)
    · have h3 := h2 _ (List.mem_cons_self ..)
      generalize hz : maxI (if j > i then j else i) r = z at h2 h3 ⊢
      rcases List.mem_cons.mp hy with h | h
      · subst h; split at h3 <;> omega
      · rcases List.mem_cons.mp h with h | h
        · subst h; split at h3 <;> omega
        · exact h2 y (List.mem_cons_of_mem _ h)
def rMin1 (K : PySem.W.Frag) : List V → Hp → VK → Prop := rMin K
theorem pr_min1 : PRc X .min1 (rMin X.K) := fun S vs xs Q hK g r p => by
  obtain ⟨v, x, rfl, rfl, rv⟩ := one_of r (fun _ _ _ => rfl) rfl p
  have p : Post S (match (lstOf S.h v).bind intsOf with
    | some (i :: r) => .ok (.int (minI i r)) S.h
    | _ => .stuck) Q := p
  cases e1 : (lstOf S.h v).bind intsOf with
  | none => rw [e1] at p; exact p.elim
  | some bs =>
    cases bs with
    | nil => rw [e1] at p; exact p.elim
    | cons i t =>
      rw [e1] at p
      obtain ⟨zs, e2, e3⟩ := bindO e1
      obtain ⟨a, ys, rfl, h, r⟩ := lst_rel g rv e2
      rw [ints_rel r e3] at h
      obtain ⟨h1, h2⟩ := minI_ok t i
      refine ⟨a, i :: t, rfl, .inl (.inl h), Nat.succ_pos _, fun m hm hm2 => ?_⟩
      have em : m = minI i t := Int.le_antisymm (hm2 _ h1) (h2 _ hm)
      subst em
      exact old_int g p
theorem pr_max1 : PRc X .max1 (rMax X.K) := fun S vs xs Q hK g r p => by
  obtain ⟨v, x, rfl, rfl, rv⟩ := one_of r (fun _ _ _ => rfl) rfl p
  have p : Post S (match (lstOf S.h v).bind intsOf with
    | some (i :: r) => .ok (.int (maxI i r)) S.h
    | _ => .stuck) Q := p
  cases e1 : (lstOf S.h v).bind intsOf with
  | none => rw [e1] at p; exact p.elim
  | some bs =>
    cases bs with
    | nil => rw [e1] at p; exact p.elim
    | cons i t =>
      rw [e1] at p
      obtain ⟨zs, e2, e3⟩ := bindO e1
      obtain ⟨a, ys, rfl, h, r⟩ := lst_rel g rv e2
      rw [ints_rel r e3] at h
      obtain ⟨h1, h2⟩ := maxI_ok t i
      refine ⟨a, i :: t, rfl, .inl (.inl h), Nat.succ_pos _, fun m hm hm2 => ?_⟩
      have em : m = maxI i t := Int.le_antisymm (h2 _ hm) (hm2 _ h1)
      subst em
      exact old_int g p
theorem pr_min2 : PRc X .min2 (fun xs H Q => ∃ i j, xs = [.int i, .int j] ∧ Q (.int (if j < i then j else i)) H) := fun S vs xs Q hK g r p => by
  obtain ⟨v, w, x, y, rfl, rfl, rv, rw_⟩ := two_of r (fun _ _ _ _ => rfl) (fun _ => rfl) rfl p
  obtain ⟨i, j, rfl, rfl, p⟩ := int2_of (f := fun i j => .ok (.int (if j < i then j else i)) S.h) p
  cases rv; cases rw_
  exact ⟨i, j, rfl, old_int g p⟩
theorem pr_max2 : PRc X .max2 (fun xs H Q => ∃ i j, xs = [.int i, .int j] ∧ Q (.int (if j > i then j else i)) H) := fun S vs xs Q hK g r p => by
  obtain ⟨v, w, x, y, rfl, rfl, rv, rw_⟩ := two_of r (fun _ _ _ _ => rfl) (fun _ => rfl) rfl p
  obtain ⟨i, j, rfl, rfl, p⟩ := int2_of (f := fun i j => .ok (.int (if j > i then j else i)) S.h) p
  cases rv; cases rw_
  exact ⟨i, j, rfl, old_int g p⟩
theorem pr_int : PRc X .int (fun xs H Q => (∃ i, xs = [.int i] ∧ Q (.int i) H) ∨ ∃ k, xs = [.bl k] ∧ Q (.int (if k then 1 else 0)) H) := fun S vs xs Q hK g r p => by
  obtain ⟨v, x, rfl, rfl, rv⟩ := one_of r (fun _ _ _ => rfl) rfl p
  cases v with
  | bool b => cases rv; exact .inr ⟨b, rfl, old_int g p⟩
  | int i => cases rv; exact .inl ⟨i, rfl, old_int g p⟩
  | _ => exact (show False from p).elim
def rStr1 : List V → Hp → VK → Prop := fun xs H Q => (∃ i, xs = [.int i] ∧ i.natAbs.log2 < 1920 ∧ Q (.str (toString i)) H) ∨ ((∃ a, xs = [.str a] ∧ Q (.str a) H) ∨ ∃ b, xs = [.bl b] ∧ Q (.str (if b = true then "True" else "False")) H)
theorem call_str_bl : CallR X (.type "str") (fun xs H Q => ∃ b, xs = [.bl b] ∧ Q (.str (if b = true then "True" else "False")) H) := by
  intro pins s σ H xs us Q I r h
  obtain ⟨b, rfl, q⟩ := h
  cases r with
  | cons r1 r2 =>
    cases r2
    obtain rfl := (show _ = Value.bool b from r1)
    exact P.str_of_bool ⟨.str _, H, I.tok _, ⟨_, rfl⟩, q⟩
theorem call_str1 : CallR X (.type "str") rStr1 := call_str_int.or (SkE.call_str_str.or call_str_bl)
theorem log_few {n : Nat} (h : n < 2 ^ 1000) : n.log2 < 1920 := by
  by_cases e : n = 0
  · subst e; decide
  · have := (Nat.log2_lt e).mpr h
    omega
theorem pr_str : PRc X .str rStr1 := fun S vs xs Q hK g r p => by
  obtain ⟨v, x, rfl, rfl, rv⟩ := one_of r (fun _ _ _ => rfl) rfl p
  cases v with
  | int i =>
    cases rv
    obtain ⟨c, p⟩ := ite_of p
    exact .inl ⟨i, rfl, log_few c, strR_of g p⟩
  | str s => obtain ⟨rfl, a⟩ := rv; exact .inr (.inl ⟨_, rfl, old_str g a p⟩)
  | bool b =>
    cases rv
    refine .inr (.inr ⟨b, rfl, ?_⟩)
    cases b with
    | true => exact old_str g (s := [84, 114, 117, 101]) rfl p
    | false => exact old_str g (s := [70, 97, 108, 115, 101]) rfl p
  | _ => exact (show False from p).elim
theorem pr_ord : PRc X .ord (fun xs H Q => ∃ x, xs = [.str x] ∧ x.length = 1 ∧ Q (.int (x.cps.getD 0 0 : Nat)) H) := fun S vs xs Q hK g r p => by
  obtain ⟨v, x, rfl, rfl, rv⟩ := one_of r (fun _ _ _ => rfl) rfl p
  obtain ⟨s, rfl, p⟩ := str1_of (f := fun s => match s with
    | [c] => .ok (.int c) S.h
    | _ => .stuck) p
  obtain ⟨rfl, a⟩ := rv
  match s, a, p with
  | [], _, p => exact p.elim
  | [c], _, p => exact ⟨_, rfl, rfl, old_int g p⟩
  | _ :: _ :: _, _, p => exact p.elim
theorem seq1_of {S : RS} {a : Val} {f : List Val → Res Val} {Q : VK} (p : Post S (seq1 S.h a f) Q) : ∃ xs, seqOf S.h a = some xs ∧ Post S (f xs) Q := by
  unfold seq1 at p
  cases e : seqOf S.h a with
  | none => rw [e] at p; exact p.elim
  | some xs => rw [e] at p; exact ⟨xs, rfl, p⟩
theorem pr_listOf {m : Bool} : PRc X (.listOf m) (fun xs H Q => ∃ p ys, xs = [.ref p] ∧ (SqL X.K H p ys ∨ SqT X.K H p ys) ∧ ∀ l, H l = none → Q (.ref l) (upd H l (.lst ys))) := fun S vs xs Q hK g r p => by
  obtain ⟨v, x, rfl, rfl, rv⟩ := one_of r (fun _ _ _ => rfl) rfl p
  obtain ⟨zs, e, p⟩ := seq1_of (f := fun xs => okList m xs S.h) p
  obtain ⟨a, ys, rfl, h, r⟩ := seq_rel g rv e
  exact ⟨a, ys, rfl, h.elim (fun h => .inl (.inl (.inl h))) (fun h => .inr (by rw [← hK]; exact h)), (okList_of g r p).2⟩
theorem pr_tupOf : PRc X .tupOf (fun xs H Q => ∃ p ys, xs = [.ref p] ∧ ((SqL X.K H p ys ∧ ∀ l, H l = none → Q (.ref l) (upd H l (.tup ys))) ∨ (SqT X.K H p ys ∧ Q (.ref p) H))) := fun S vs xs Q hK g r p => by
  obtain ⟨v, x, rfl, rfl, rv⟩ := one_of r (fun _ _ _ => rfl) rfl p
  obtain ⟨zs, e, p⟩ := seq1_of (f := fun xs => okTup xs S.h) p
  obtain ⟨_, p2⟩ := okTup_of p
  cases v with
  | tup us =>
    cases e
    obtain ⟨a, ys, rfl, f, r⟩ := rv
    exact ⟨a, ys, rfl, .inr ⟨by rw [← hK]; exact f.sq, old_val g (tup_of r f) p2⟩⟩
  | list us =>
    cases e
    obtain ⟨a, ys, rfl, f, r⟩ := rv
    exact ⟨a, ys, rfl, .inl ⟨.inl (.inl f.1), fun l n => new_tup g r p2 n⟩⟩
  | ref n =>
    obtain ⟨a, ha, rfl⟩ := rv
    unfold seqOf dr at e
    simp only at e
    cases q : S.h[n]? with
    | none => rw [q] at e; cases e
    | some o =>
      rw [q] at e
      have o1 := g.obj n o a q ha
      cases o with
      | list us =>
        cases e
        obtain ⟨ys, h, r⟩ := o1
        exact ⟨a, ys, rfl, .inl ⟨.inl (.inl h), fun l n => new_tup g r p2 n⟩⟩
      | _ => cases e
  | _ => cases e
end
end M
namespace M
open PySem PySem.Spec PyProof.Rows L2
section
variable {X : Cx}
/-! ### methods of mutable lists -/
def PRm (X : Cx) (p : P) (T : String) (r : V → List V → Hp → VK → Prop) : Prop := ∀ (S : RS) (v : Val) (vs : List Val) (x : V) (xs : List V) (Q : VK), S.K = X.K → Good S → Rel S v x → Rels S vs xs → Post S (evP p (v :: vs) S.h) Q → r x xs S.H Q
theorem lst1_of {S : RS} {n : Nat} {f : List Val → Res Val} {Q : VK} (p : Post S (lst1 S.h n f) Q) : ∃ xs, S.h[n]? = some (.list xs) ∧ Post S (f xs) Q := by
  unfold lst1 at p
  cases e : S.h[n]? with
  | none => rw [e] at p; exact p.elim
  | some o =>
    rw [e] at p
    cases o with
    | list xs => exact ⟨xs, rfl, p⟩
    | _ => exact p.elim
theorem lstr_of {S : RS} {a : Val} {f : List Val → Res Val} {Q : VK} (p : Post S (lstr S.h a f) Q) : ∃ xs, lstOf S.h a = some xs ∧ Post S (f xs) Q := by
  unfold lstr at p
  cases e : lstOf S.h a with
  | none => rw [e] at p; exact p.elim
  | some xs => rw [e] at p; exact ⟨xs, rfl, p⟩
/-- the mutable list behind a reference -/
theorem ref_lst {S : RS} (g : Good S) {n : Nat} {x : V} {xs : List Val} (r : Rel S (.ref n) x) (e : S.h[n]? = some (.list xs)) : ∃ a ys, x = .ref a ∧ S.r[n]? = some a ∧ S.H a = some (.lst ys) ∧ Rels S xs ys := by
  obtain ⟨a, h1, rfl⟩ := r
  obtain ⟨ys, h2, r⟩ := g.obj n _ a e h1
  exact ⟨a, ys, rfl, h1, h2, r⟩
/-- it is changed -/
theorem mut_lst {S : RS} (g : Good S) {n : Nat} {a : Addr} {xs vs : List Val} {ys : List V} {v : Val} {x : V} {Q : VK} (ha : S.r[n]? = some a) (e : S.h[n]? = some (.list xs)) (r : Rels S vs ys) (rv : Rel S v x)
    (p : Post S (.ok v (S.h.set n (.list vs))) Q) : Q x (upd S.H a (.lst ys)) := by
  have ex : Ext S (S.mut n a (.lst ys) (.list vs)) := ext_mut g ha e (fun z => nomatch z)
  exact p (S.mut n a (.lst ys) (.list vs)) x rfl (good_mut g ha e (fun z => nomatch z) ⟨ys, upd_same, r.ext ex⟩) ex (rv.ext ex)
theorem lt_sl {n : Nat} (h : n < SL) : n < sizeLine := by rw [← SL_eq]; exact h
theorem le_sl {n : Nat} (h : n ≤ SL) : n ≤ sizeLine := by rw [← SL_eq]; exact h
theorem pm_append : PRm X .append "list" rAppend := fun S v vs x xs Q hK g rv r p => by
  match vs, r, p with
  | [], _, p => exact (show False from p).elim
  | [w], r, p =>
    obtain ⟨n, rfl, p⟩ := ref1_of (f := fun n => lst1 S.h n fun xs => if xs.length < SL then .ok .none (S.h.set n (.list (xs ++ [w]))) else .stuck) p
    obtain ⟨zs, e, p⟩ := lst1_of p
    obtain ⟨c, p⟩ := ite_of p
    obtain ⟨a, ys, rfl, ha, hH, rz⟩ := ref_lst g rv e
    obtain ⟨y, t, rfl, ry, et⟩ := r
    cases et
    exact ⟨a, ys, y, rfl, rfl, hH, by rw [← rz.len]; exact lt_sl c, mut_lst g ha e (rz.app (.one ry)) (v := .none) (x := .non) rfl p⟩
  | _ :: _ :: _, _, p => exact (show False from p).elim
theorem pm_pop : PRm X .pop "list" rPop := fun S v vs x xs Q hK g rv r p => by
  match vs, r, p with
  | [], r, p =>
    cases r
    obtain ⟨n, rfl, p⟩ := ref1_of (f := fun n => lst1 S.h n fun xs => match xs[xs.length - 1]? with
      | some v => .ok v (S.h.set n (.list xs.dropLast))
      | none => .stuck) p
    obtain ⟨zs, e, p⟩ := lst1_of p
    obtain ⟨a, ys, rfl, ha, hH, rz⟩ := ref_lst g rv e
    cases q : zs[zs.length - 1]? with
    | none => rw [q] at p; exact p.elim
    | some w =>
      rw [q] at p
      obtain ⟨y, e2, ry⟩ := rz.get q
      rw [rz.len] at e2
      exact ⟨a, ys, y, rfl, rfl, hH, e2, mut_lst g ha e rz.init ry p⟩
  | _ :: _, _, p => exact (show False from p).elim
theorem ixN_seq {n : Nat} {i : Int} {k : Nat} (h : ixN n i = some k) : seqIndex? i n = some k ∧ -(n : Int) ≤ i ∧ i < n := by
  unfold ixN at h
  unfold seqIndex?
  split at h
  · rename_i h0
    split at h
    · rename_i h1
      cases h
      have e1 : ¬ i < 0 := by omega
      simp only [e1, if_false]
      refine ⟨?_, by omega, h1⟩
      have e2 : (decide (0 ≤ i) && decide (i < (n : Int))) = true := by simp [h0, h1]
      rw [e2] <;> rfl
    · cases h
  · rename_i h0
    split at h
    · rename_i h1
      cases h
      have e1 : i < 0 := by omega
      simp only [e1, if_true]
      refine ⟨?_, h1, by omega⟩
      have e2 : (decide (0 ≤ i + (n : Int)) && decide (i + (n : Int) < (n : Int))) = true := by
        rw [Bool.and_eq_true, decide_eq_true_eq, decide_eq_true_eq]; omega
      rw [e2] <;> rfl
    · cases h
theorem pm_popAt : PRm X .popAt "list" rPopAt := fun S v vs x xs Q hK g rv r p => by
  match vs, r, p with
  | [], _, p => exact (show False from p).elim
  | [w], r, p =>
    obtain ⟨n, rfl, p⟩ := ref1_of (f := fun n => int1 w fun i => lst1 S.h n fun xs => if xs.length ≤ SL then (match ixN xs.length i with
      | some k => match xs[k]? with
        | some v => .ok v (S.h.set n (.list (xs.eraseIdx k)))
        | none => .stuck
      | none => .stuck) else .stuck) p
    obtain ⟨i, rfl, p⟩ := int1_of p
    obtain ⟨zs, e, p⟩ := lst1_of p
    obtain ⟨c, p⟩ := ite_of p
    obtain ⟨a, ys, rfl, ha, hH, rz⟩ := ref_lst g rv e
    obtain ⟨y, t, rfl, ry, et⟩ := r
    cases et
    cases ry
    cases q : ixN zs.length i with
    | none => rw [q] at p; exact p.elim
    | some k =>
      rw [q] at p
      simp only at p
      cases q2 : zs[k]? with
      | none => rw [q2] at p; exact p.elim
      | some w =>
        rw [q2] at p
        obtain ⟨y, e2, ry⟩ := rz.get q2
        rw [rz.len] at q
        obtain ⟨h1, h2, h3⟩ := ixN_seq q
        have h4 : ys.length ≤ 16777216 := by rw [← rz.len]; exact c
        exact ⟨a, ys, i, k, y, rfl, rfl, hH, by omega, by omega, h1, e2, mut_lst g ha e (rz.erase k) ry p⟩
  | _ :: _ :: _, _, p => exact (show False from p).elim
theorem pm_extend : PRm X .extend "list" rExtend := fun S v vs x xs Q hK g rv r p => by
  match vs, r, p with
  | [], _, p => exact (show False from p).elim
  | [w], r, p =>
    obtain ⟨n, rfl, p⟩ := ref1_of (f := fun n => lst1 S.h n fun xs => lstr S.h w fun ys => if xs.length + ys.length ≤ SL then .ok .none (S.h.set n (.list (xs ++ ys))) else .stuck) p
    obtain ⟨zs, e, p⟩ := lst1_of p
    obtain ⟨us, e2, p⟩ := lstr_of p
    obtain ⟨c, p⟩ := ite_of p
    obtain ⟨a, ys, rfl, ha, hH, rz⟩ := ref_lst g rv e
    obtain ⟨y, t, rfl, ry, et⟩ := r
    cases et
    obtain ⟨b, ws, rfl, hB, rb⟩ := lst_rel g ry e2
    exact ⟨a, b, ys, ws, rfl, rfl, hH, hB, by rw [← rz.len, ← rb.len]; exact le_sl c, mut_lst g ha e (rz.app rb) (v := .none) (x := .non) rfl p⟩
  | _ :: _ :: _, _, p => exact (show False from p).elim
/-! ### methods of texts -/
theorem sum_toS (ss : List T) : ((ss.map toS).map (·.length)).sum = (ss.map (·.length)).sum := by
  rw [List.map_map]
  exact congrArg List.sum (List.map_congr_left fun s _ => toS_len s)
theorem pm_join : PRm X .join "str" (fun x xs H Q => ∃ a p, ∃ ys : List Str, x = .str a ∧ xs = [.ref p] ∧ (SqL X.K H p (ys.map V.str) ∨ SqT X.K H p (ys.map V.str)) ∧
    (ys.map (·.length)).sum + ys.length * a.length ≤ 16777216 ∧ Q (.str (Txt.join a ys)) H) := fun S v vs x xs Q hK g rv r p => by
  match vs, r, p with
  | [], _, p => exact (show False from p).elim
  | [w], r, p =>
    obtain ⟨s, rfl, p2⟩ := str1_of (f := fun sep => match (seqOf S.h w).bind textsOf with
      | some ss => if (ss.map (·.length)).sum + ss.length * sep.length ≤ SL then strR (PySem.Txt.join (toS sep) (ss.map toS)) S.h else .stuck
      | none => .stuck) p
    obtain ⟨rfl, a⟩ := rv
    obtain ⟨y, t, rfl, ry, et⟩ := r
    cases et
    cases e1 : (seqOf S.h w).bind textsOf with
    | none => rw [e1] at p2; exact p2.elim
    | some ss =>
      rw [e1] at p2
      obtain ⟨c, p2⟩ := ite_of p2
      obtain ⟨zs, e2, e3⟩ := bindO e1
      obtain ⟨b, ys, rfl, hb, rb⟩ := seq_rel g ry e2
      obtain ⟨e4, _⟩ := texts_rel rb e3
      rw [e4] at hb
      refine ⟨_, b, ss.map toS, rfl, rfl, hb.elim (fun h => .inl (.inl (.inl h))) (fun h => .inr (by rw [← hK]; exact h)), ?_, strR_of g p2⟩
      rw [sum_toS, List.length_map, toS_len]
      exact c
  | _ :: _ :: _, _, p => exact (show False from p).elim
theorem pm_upper : PRm X .upper "str" (fun x xs H Q => ∃ a, x = .str a ∧ xs = [] ∧ a.length ≤ 5592405 ∧ Q (.str (Txt.upper a)) H) := fun S v vs x xs Q hK g rv r p => by
  match vs, r, p with
  | [], r, p =>
    cases r
    obtain ⟨s, rfl, p2⟩ := str1_of (f := fun s => if s.length ≤ 5000000 then strR (PySem.Txt.upper (toS s)) S.h else .stuck) p
    obtain ⟨rfl, a⟩ := rv
    obtain ⟨c, p2⟩ := ite_of p2
    exact ⟨_, rfl, rfl, by rw [toS_len]; omega, strR_of g p2⟩
  | _ :: _, _, p => exact (show False from p).elim
theorem pm_count : PRm X .count "str" (fun x xs H Q => ∃ a b, x = .str a ∧ xs = [.str b] ∧ Q (.int (Txt.count a b)) H) := fun S v vs x xs Q hK g rv r p => by
  match vs, r, p with
  | [], _, p => exact (show False from p).elim
  | [w], r, p =>
    obtain ⟨s, rfl, p2⟩ := str1_of (f := fun s => str1 w fun t => .ok (.int (PySem.Txt.count (toS s) (toS t))) S.h) p
    obtain ⟨t, rfl, p2⟩ := str1_of p2
    obtain ⟨rfl, a⟩ := rv
    obtain ⟨y, u, rfl, ry, et⟩ := r
    cases et
    obtain ⟨rfl, _⟩ := ry
    exact ⟨_, _, rfl, rfl, old_int g p2⟩
  | _ :: _ :: _, _, p => exact (show False from p).elim
theorem pm_sindex : PRm X .sindex "str" (fun x xs H Q => ∃ a b i rest, x = .str a ∧ xs = [.str b] ∧ Builtin.Str.occurrences a b 0 a.length 1 = i :: rest ∧ Q (.int (i : Nat)) H) := fun S v vs x xs Q hK g rv r p => by
  match vs, r, p with
  | [], _, p => exact (show False from p).elim
  | [w], r, p =>
    obtain ⟨s, rfl, p2⟩ := str1_of (f := fun s => str1 w fun t => match PySem.Builtin.Str.occurrences (toS s) (toS t) 0 (toS s).length 1 with
      | i :: _ => .ok (.int (i : Nat)) S.h
      | [] => .stuck) p
    obtain ⟨t, rfl, p3⟩ := str1_of p2
    obtain ⟨rfl, a⟩ := rv
    obtain ⟨y, u, rfl, ry, et⟩ := r
    cases et
    obtain ⟨rfl, _⟩ := ry
    cases e : PySem.Builtin.Str.occurrences (toS s) (toS t) 0 (toS s).length 1 with
    | nil => rw [e] at p3; exact p3.elim
    | cons i rest =>
      rw [e] at p3
      exact ⟨_, _, i, rest, rfl, rfl, e, old_int g p3⟩
  | _ :: _ :: _, _, p => exact (show False from p).elim
/-- which methods there are: a built-in, its type, its rule -/
theorem recv_lst {S : RS} (g : Good S) {v : Val} {x : V} (r : Rel S v x) (h : isLst v S.h = true) : tyV S.K "list" x S.H := by
  cases v with
  | ref n =>
    unfold isLst at h
    simp only at h
    cases e : S.h[n]? with
    | none => rw [e] at h; cases h
    | some o =>
      rw [e] at h
      cases o with
      | list xs => obtain ⟨a, ys, rfl, _, hH, _⟩ := ref_lst g r e; exact .inl ⟨rfl, ys, .inl (.inl hH)⟩
      | _ => cases h
  | _ => cases h
theorem recv_str {S : RS} {v : Val} {x : V} (r : Rel S v x) (h : isStr v = true) : tyV S.K "str" x S.H := by
  cases v with
  | str s => obtain ⟨rfl, _⟩ := r; rfl
  | _ => cases h
/-! ### is -/
theorem isN_rel {S : RS} {v : Val} {x : V} (r : Rel S v x) : decide (x = V.non) = isN v := by
  cases v with
  | none => cases r; rfl
  | bool b => cases r; rfl
  | int b => cases r; rfl
  | str s => obtain ⟨rfl, _⟩ := r; rfl
  | tup xs => obtain ⟨a, vs, rfl, _⟩ := r; rfl
  | list xs => obtain ⟨a, vs, rfl, _⟩ := r; rfl
  | dict ks vs => obtain ⟨a, kvs, rfl, _⟩ := r; rfl
  | obj _ _ _ => exact r.elim
  | ref n => obtain ⟨a, _, rfl⟩ := r; rfl
  | fn _ => exact r.elim
  | cls _ => exact r.elim
  | ty _ => exact r.elim
  | scr xs => obtain ⟨a, vs, rfl, _⟩ := r; rfl
theorem p1_isNone : PR1 X .isNone (fun x H Q => Q (.bl (decide (x = .non))) H) := fun S v x Q hK g r p => by
  have q := old_bl g p
  show Q (.bl (decide (x = .non))) S.H
  rw [isN_rel r]; exact q
theorem p1_isNotNone : PR1 X .isNotNone (fun x H Q => Q (.bl (!decide (x = .non))) H) := fun S v x Q hK g r p => by
  have q := old_bl g p
  show Q (.bl (!decide (x = .non))) S.H
  rw [isN_rel r]; exact q
theorem p1_isTrue : PR1 X .isTrue (fun x H Q => rIsB x (.bl true) H Q) := fun S v x Q hK g r p => by
  obtain ⟨b, rfl, p⟩ := bool1_of (f := fun b => .ok (.bool b) S.h) p
  cases r
  have q := old_bl g p
  exact ⟨b, true, rfl, rfl, by cases b <;> exact q⟩
theorem p1_isFalse : PR1 X .isFalse (fun x H Q => rIsB x (.bl false) H Q) := fun S v x Q hK g r p => by
  obtain ⟨b, rfl, p⟩ := bool1_of (f := fun b => .ok (.bool (!b)) S.h) p
  cases r
  have q := old_bl g p
  exact ⟨b, false, rfl, rfl, by cases b <;> exact q⟩
theorem p1_isNotTrue : PR1 X .isNotTrue (fun x H Q => rNotB x (.bl true) H Q) := fun S v x Q hK g r p => by
  obtain ⟨b, rfl, p⟩ := bool1_of (f := fun b => .ok (.bool (!b)) S.h) p
  cases r
  have q := old_bl g p
  exact ⟨b, true, rfl, rfl, by cases b <;> exact q⟩
theorem p1_isNotFalse : PR1 X .isNotFalse (fun x H Q => rNotB x (.bl false) H Q) := fun S v x Q hK g r p => by
  obtain ⟨b, rfl, p⟩ := bool1_of (f := fun b => .ok (.bool b) S.h) p
  cases r
  have q := old_bl g p
  exact ⟨b, false, rfl, rfl, by cases b <;> exact q⟩
end
end M
namespace M
open PySem PySem.Spec PyProof.Rows L2
section
variable {X : Cx}
/-! ### isinstance -/
def tyName : Nat → String
  | 0 => "str"
  | 1 => "int"
  | 2 => "bool"
  | 3 => "tuple"
  | 4 => "list"
  | 5 => "dict"
  | _ => "NoneType"
theorem tyN_ok : ∀ k, k < 7 → ∀ t, t < 6 → kitB (tyName k) (tyName t) = some (isOf k t) := by decide +kernel
theorem kind_ty {S : RS} (g : Good S) {v : Val} {x : V} {k : Nat} (r : Rel S v x) (e : kindOf S.h v = some k) : k < 7 ∧ TyX S.K S.H x (.type (tyName k)) := by
  unfold kindOf at e
  cases q : dr S.h v with
  | none => rw [q] at e; cases e
  | some w =>
    rw [q] at e
    have d := dr_rel g r q
    cases w with
    | none => cases e; cases d; exact ⟨by decide, .base .non⟩
    | bool b => cases e; cases d; exact ⟨by decide, .base (.bl b)⟩
    | int i => cases e; cases d; exact ⟨by decide, .base (.int i)⟩
    | str s => cases e; obtain ⟨rfl, _⟩ := d; exact ⟨by decide, .base (.str _)⟩
    | list xs => cases e; obtain ⟨a, ys, rfl, h, _⟩ := d; exact ⟨by decide, .base (.lst h)⟩
    | tup xs =>
      cases e
      obtain ⟨a, ys, rfl, h, _⟩ := d
      refine ⟨by decide, ?_⟩
      rcases h with (h | ⟨o, h⟩) | ⟨o, its, n, hk, hc, _⟩
      · exact .base (.tup h)
      · exact .fTuple h
      · exact .kTuple hk hc
    | dict ks vs => cases e; obtain ⟨a, kvs, rfl, h, _⟩ := d; exact ⟨by decide, .base (.dK h)⟩
    | _ => cases e
theorem pr_isi {S : RS} {v : Val} {x : V} {Q : VK} {t : Nat} (ht : t < 6) (hK : S.K = X.K) (g : Good S) (r : Rel S v x) (p : Post S (evP (.isi [t]) [v] S.h) Q) : rIsi X.K [x, .ty (tyName t)] S.H Q := by
  obtain ⟨b, e, q⟩ := optB_of (o := (kindOf S.h v).map fun k => [t].any (isOf k)) g p
  obtain ⟨k, e1, e2⟩ := mapO e
  obtain ⟨hk, ty⟩ := kind_ty g r e1
  refine ⟨x, _, _, _, b, rfl, .ty _, by rw [← hK]; exact ty, ?_, q⟩
  rw [← e2]
  have h := tyN_ok k hk t ht
  have e3 : ([t].any (isOf k)) = isOf k t := by simp
  rw [e3]
  exact kit_ty h
/-! ### repr -/
def Rds (X : Cx) (H : Hp) (x : V) (d : PyData) : Prop := ∀ (pins : List (Addr × PySem.Obj)) (σ : L2.St) (s : Shared) (u : Value), Inv X pins σ H s → RelV x u → ∃ as, Reads s.heap u d as ∧ (d.hasDict = true → sysModules ∉ as)
def rRepr (X : Cx) : List V → Hp → VK → Prop := fun xs H Q => ∃ x d, xs = [x] ∧ Rds X H x d ∧ d.showable = true ∧ d.depth ≤ 64 ∧ d.shown.length ≤ sizeLine ∧ Q (.str d.shown) H
theorem call_reprA (hg : X.A.guards = some []) (hu : X.A.units + 65 < cLine) : CallR X (.builtin "repr") (rRepr X) := by
  intro pins s σ H xs us Q I r h
  obtain ⟨x, d, rfl, rd, hs, hd, hz, q⟩ := h
  obtain ⟨u, rfl, r1⟩ := Vals.one r
  obtain ⟨as, R, hm⟩ := rd pins σ s u I r1
  have fin : ∀ {h' : PySem.Heap} {tk : Nat} {t : Tok}, (∀ b o, s.heap.get? b = some o → h'.get? b = some o) → EP X pins σ Q (.str d.shown t) { s with heap := h', toks := tk } := fun hk => ⟨.str _, H, I.kept hk, ⟨_, rfl⟩, q⟩
  cases R with
  | none => exact PySem.P.repr_of_none (fin (fun _ _ e => e))
  | bool b => exact PySem.P.repr_of_bool (fin (fun _ _ e => e))
  | int i t => exact PySem.P.repr_of_int (of_decide_eq_true hs) (fin (fun _ _ e => e))
  | str y t => exact PySem.P.repr_of_str (fin (fun _ _ e => e)) hz
  | list h1 h2 h3 h4 => exact repr_of_reads' (.list h1 h2 h3 h4) hs hm hg (by omega) (fun _ _ e => e) (fun h' u tk hk => fin hk) hz
  | tuple h1 h2 h3 h4 => exact repr_of_reads' (.tuple h1 h2 h3 h4) hs hm hg (by omega) (fun _ _ e => e) (fun h' u tk hk => fin hk) hz
  | dict h1 h2 h3 h4 h5 => exact repr_of_reads' (.dict h1 h2 h3 h4 h5) hs hm hg (by omega) (fun _ _ e => e) (fun h' u tk hk => fin hk) hz
mutual
theorem noDict : ∀ {v : Val}, v.flat = true → (toPy v).hasDict = false
  | .none, _ => rfl
  | .bool _, _ => rfl
  | .int _, _ => rfl
  | .str _, _ => rfl
  | .tup xs, h => noDicts (show Val.flats xs = true from h)
  | .list xs, h => noDicts (show Val.flats xs = true from h)
  | .dict _ _, h => by cases h
  | .obj _ _ _, h => by cases h
  | .ref _, h => by cases h
  | .fn _, h => by cases h
  | .cls _, h => by cases h
  | .ty _, h => by cases h
  | .scr _, h => by cases h
theorem noDicts : ∀ {v : List Val}, Val.flats v = true → PyData.hasDictAll (toPys v) = false
  | [], _ => rfl
  | v :: r, h => by
    have h' := Bool.and_eq_true_iff.mp h
    show ((toPy v).hasDict || PyData.hasDictAll (toPys r)) = false
    rw [noDict h'.1, noDicts h'.2]
    exact rfl
end
theorem showableKv_zip : ∀ {ks vs : List PyData}, PyData.showableAll ks = true → PyData.showableAll vs = true → PyData.showableKv (ks.zip vs) = true
  | [], vs, _, _ => by simp [PyData.showableKv]
  | k :: ks, [], _, _ => by simp [PyData.showableKv]
  | k :: ks, v :: vs, h, h' => by
    simp only [PyData.showableAll, Bool.and_eq_true] at h h'
    simp only [List.zip_cons_cons, PyData.showableKv, Bool.and_eq_true]
    exact ⟨⟨h.1, h'.1⟩, showableKv_zip h.2 h'.2⟩
mutual
theorem showable_few : ∀ {v : Val}, v.few = true → (toPy v).showable = true
  | .none, _ => rfl
  | .bool _, _ => rfl
  | .int _, h => decide_eq_true (log_few (of_decide_eq_true h))
  | .str _, _ => rfl
  | .tup xs, h => showables_few (show Val.fews xs = true from h)
  | .list xs, h => showables_few (show Val.fews xs = true from h)
  | .dict ks vs, h => by
    have h' := Bool.and_eq_true_iff.mp (show (Val.fews ks && Val.fews vs) = true from h)
    exact showableKv_zip (showables_few h'.1) (showables_few h'.2)
  | .obj _ _ _, _ => rfl
  | .ref _, _ => rfl
  | .fn _, _ => rfl
  | .cls _, _ => rfl
  | .ty _, _ => rfl
  | .scr _, _ => rfl
theorem showables_few : ∀ {v : List Val}, Val.fews v = true → PyData.showableAll (toPys v) = true
  | [], _ => rfl
  | v :: r, h => by
    have h' := Bool.and_eq_true_iff.mp h
    exact Bool.and_eq_true_iff.mpr ⟨showable_few h'.1, showables_few h'.2⟩
end
theorem toPys_len : ∀ (l : List Val), (toPys l).length = l.length
  | [] => rfl
  | v :: r => congrArg Nat.succ (toPys_len r)
theorem entries_vals {P : Program} {w : World} : ∀ {kvs : List (Key × V)} {ws : List (Key × Value)} {es : List DictEntry}, KV kvs ws → Pairs (mixKind P w) es ws → Vals (kvs.map fun p => kV p.1) (es.map (·.key)) ∧ Vals (kvs.map Prod.snd) (es.map (·.val))
  | _, _, _, .nil, .nil => ⟨.nil, .nil⟩
  | p :: _, z :: _, _, .cons r t, .cons (e := e) q1 q2 u => by
    obtain ⟨h1, h2⟩ := entries_vals t u
    obtain ⟨e1, rv⟩ := r
    refine ⟨.cons ?_ h1, .cons ?_ h2⟩
    · show L2.RelV (kV p.1) e.key
      rw [e1]
      rcases keyIs_shape (show keyIs z.1 e.key = true from q1) with ⟨i, t, h, h'⟩ | ⟨i, t, h, h'⟩
      · rw [h, h']; exact ⟨t, rfl⟩
      · rw [h, h']; exact ⟨t, rfl⟩
    · show L2.RelV p.2 e.val
      rw [q2]; exact rv
/-- the module of modules stands, a dict -/
def SysK (K : PySem.W.Frag) : Prop := ∃ o, K.lookup sysModules = some o ∧ o.cls = .type "dict"
theorem lst_sys (hs : SysK X.K) {pins : List (Addr × PySem.Obj)} {σ : L2.St} {H : Hp} {s : Shared} (I : Inv X pins σ H s) {a : Addr} {o : PySem.Obj} (e : s.heap.get? a = some o) (hc : o.cls = .type "list") : a ≠ sysModules := by
  rintro rfl
  obtain ⟨o', h1, h2⟩ := hs
  rw [I.kIn _ _ h1] at e
  cases e
  rw [h2] at hc
  injection hc with hc
  exact absurd hc (by decide)
theorem reads_lst {S : RS} {pins : List (Addr × PySem.Obj)} {σ : L2.St} {s : Shared} (hs : SysK X.K) (I : Inv X pins σ S.H s) {a : Addr} {vs : List V} {ds : List PyData} (f : S.H a = some (.lst vs)) (h : ∀ {us : List Value}, Vals vs us → ∃ as, ReadsAll s.heap us ds as ∧ sysModules ∉ as) :
    ∃ as, Reads s.heap (.ref a) (.list ds) as ∧ sysModules ∉ as := by
  obtain ⟨_, its, n, rv, e⟩ := I.hok a _ f
  obtain ⟨as, R, hm⟩ := h rv
  have ne : a ≠ sysModules := lst_sys hs I e rfl
  refine ⟨a :: as, .list e rfl rfl (by simpa using R), ?_⟩
  simp only [List.mem_cons, not_or]
  exact ⟨fun z => ne z.symm, hm⟩
theorem reads_dct {S : RS} {pins : List (Addr × PySem.Obj)} {σ : L2.St} {s : Shared} (I : Inv X pins σ S.H s) {a : Addr} {kvs : List (Key × V)} {ks vs : List PyData} (f : S.H a = some (.dK kvs)) (hl : ks.length = vs.length) (h : ∀ {us : List Value}, Vals (kvs.map fun p => kV p.1) us → ∃ as, ReadsAll s.heap us ks as ∧ sysModules ∉ as)
    (h' : ∀ {us : List Value}, Vals (kvs.map Prod.snd) us → ∃ as, ReadsAll s.heap us vs as ∧ sysModules ∉ as) : ∃ as, Reads s.heap (.ref a) (.dict (ks.zip vs)) as ∧ sysModules ∉ as := by
  obtain ⟨_, hd, ws, rel, o, es, ep, h1, h2, h3, h4, h5, _⟩ := I.hok a _ f
  have e1 := entries_vals rel h5
  obtain ⟨as, R, hm⟩ := h e1.1
  obtain ⟨bs, R', hm'⟩ := h' e1.2
  refine ⟨a :: as ++ bs, ?_, ?_⟩
  · refine Reads.dict h1 h2.1 h3 ?_ ?_
    · rw [List.map_fst_zip (by omega)]; exact R
    · rw [List.map_snd_zip (by omega)]; exact R'
  · simp only [List.cons_append, List.mem_cons, List.mem_append, not_or]
    exact ⟨fun e => by rw [← e] at hd; exact absurd hd (by decide), hm, hm'⟩
mutual
theorem reads_td {S : RS} {pins : List (Addr × PySem.Obj)} {σ : L2.St} {s : Shared} (hs : SysK X.K) (hK : S.K = X.K) (I : Inv X pins σ S.H s) : ∀ {v : Val} {x : V} {u : Value}, v.dat = true → Rel S v x → RelV x u → ∃ as, Reads s.heap u (toPy v) as ∧ sysModules ∉ as
  | .none, _, _, _, h, r => by cases h; cases r; exact ⟨_, .none, by simp⟩
  | .bool b, _, _, _, h, r => by cases h; cases r; exact ⟨_, .bool b, by simp⟩
  | .int i, _, _, _, h, r => by cases h; obtain ⟨t, rfl⟩ := r; exact ⟨_, .int i t, by simp⟩
  | .str z, _, _, _, h, r => by obtain ⟨rfl, _⟩ := h; obtain ⟨t, rfl⟩ := r; exact ⟨_, .str _ t, by simp⟩
  | .tup xs, _, _, q, h, r => by
    obtain ⟨a, vs, rfl, f, h3⟩ := h
    cases r
    obtain ⟨its, rv, ⟨o, h1, h2, n, h4⟩, _⟩ := I.tuple (by rw [← hK]; exact f.sq)
    obtain ⟨as, R, hm⟩ := reads_tds hs hK I (show Val.dats xs = true from q) h3 rv
    exact ⟨as, .tuple h1 h2 h4 (by simpa using R), hm⟩
  | .list xs, _, _, q, h, r => by
    obtain ⟨a, vs, rfl, f, h3⟩ := h
    cases r
    exact reads_lst hs I f.1 fun rv => reads_tds hs hK I (show Val.dats xs = true from q) h3 rv
  | .dict ks vs, _, _, q, h, r => by
    obtain ⟨a, kvs, rfl, f, hk, hv⟩ := h
    cases r
    have q' := Bool.and_eq_true_iff.mp (show (Val.dats ks && Val.dats vs && decide (ks.length = vs.length)) = true from q)
    have q'' := Bool.and_eq_true_iff.mp q'.1
    exact reads_dct I f.1 (by rw [toPys_len, toPys_len]; exact of_decide_eq_true q'.2) (fun rv => reads_tds hs hK I q''.1 hk rv) fun rv => reads_tds hs hK I q''.2 hv rv
  | .obj _ _ _, _, _, q, _, _ => by cases q
  | .ref _, _, _, q, _, _ => by cases q
  | .fn _, _, _, q, _, _ => by cases q
  | .cls _, _, _, q, _, _ => by cases q
  | .ty _, _, _, q, _, _ => by cases q
  | .scr _, _, _, q, _, _ => by cases q
theorem reads_tds {S : RS} {pins : List (Addr × PySem.Obj)} {σ : L2.St} {s : Shared} (hs : SysK X.K) (hK : S.K = X.K) (I : Inv X pins σ S.H s) : ∀ {v : List Val} {x : List V} {u : List Value}, Val.dats v = true → Rels S v x → Vals x u → ∃ as, ReadsAll s.heap u (toPys v) as ∧ sysModules ∉ as
  | [], _, _, _, h, r => by cases h; cases r; exact ⟨_, .nil, by simp⟩
  | v :: t, _, _, q, h, r => by
    obtain ⟨x, y, rfl, h1, h2⟩ := h
    have q' := Bool.and_eq_true_iff.mp q
    cases r with
    | cons r1 r2 =>
      obtain ⟨as, R, m⟩ := reads_td hs hK I q'.1 h1 r1
      obtain ⟨bs, R', m'⟩ := reads_tds hs hK I q'.2 h2 r2
      exact ⟨as ++ bs, .cons R R', by simp [m, m']⟩
end
theorem rds_of {S : RS} (hs : SysK X.K) (hK : S.K = X.K) (g : Good S) {v w : Val} {x : V} (r : Rel S v x) (e : dr S.h v = some w) (q : w.dat = true) : Rds X S.H x (toPy w) := fun pins σ s u I ru => by
  have d := dr_rel g r e
  have fin : (∃ as, Reads s.heap u (toPy w) as ∧ sysModules ∉ as) → ∃ as, Reads s.heap u (toPy w) as ∧ ((toPy w).hasDict = true → sysModules ∉ as) := fun ⟨as, R, m⟩ => ⟨as, R, fun _ => m⟩
  refine fin ?_
  cases w with
  | none => exact reads_td hs hK I q d ru
  | bool _ => exact reads_td hs hK I q d ru
  | int _ => exact reads_td hs hK I q d ru
  | str _ => exact reads_td hs hK I q d ru
  | list xs =>
    obtain ⟨a, vs, rfl, f, h3⟩ := d
    cases ru
    exact reads_lst hs I f fun rv => reads_tds hs hK I (show Val.dats xs = true from q) h3 rv
  | dict ks vs =>
    obtain ⟨a, kvs, rfl, f, hk, hv⟩ := d
    cases ru
    have q' := Bool.and_eq_true_iff.mp (show (Val.dats ks && Val.dats vs && decide (ks.length = vs.length)) = true from q)
    have q'' := Bool.and_eq_true_iff.mp q'.1
    exact reads_dct I f (by rw [toPys_len, toPys_len]; exact of_decide_eq_true q'.2) (fun rv => reads_tds hs hK I q''.1 hk rv) fun rv => reads_tds hs hK I q''.2 hv rv
  | tup xs =>
    obtain ⟨a, vs, rfl, f, h3⟩ := d
    cases ru
    obtain ⟨its, rv, ⟨o, h1, h2, n, h4⟩, _⟩ := I.tuple (by rw [← hK]; exact f)
    obtain ⟨as, R, hm⟩ := reads_tds hs hK I (show Val.dats xs = true from q) h3 rv
    exact ⟨as, .tuple h1 h2 h4 (by simpa using R), hm⟩
  | _ => cases q
theorem pr_repr (hs : SysK X.K) : PRc X .repr (rRepr X) := fun S vs xs Q hK g r p => by
  obtain ⟨v, x, rfl, rfl, rv⟩ := one_of r (fun _ _ _ => rfl) rfl p
  have p : Post S (reprV S.h v) Q := p
  unfold reprV at p
  cases e : dr S.h v with
  | none => rw [e] at p; exact p.elim
  | some w =>
    rw [e] at p
    obtain ⟨c, p⟩ := ite_of p
    simp only [Bool.and_eq_true, decide_eq_true_eq] at c
    obtain ⟨⟨⟨c1, c2⟩, c3⟩, c4⟩ := c
    refine ⟨x, toPy w, rfl, rds_of hs hK g rv e c1, showable_few c2, Nat.le_trans (deep_py w) c3, ?_, ?_⟩
    · have h := (asc_iff.mp c4).2
      have e2 : (reprT w).length = (toPy w).shown.length := by show ((toPy w).shown.cps.toList).length = _; simp [Str.length]
      rw [← SL_eq, ← e2]; exact h
    · have h := old_str g c4 p
      exact h
end
end M
/-! ### sorting tuples among which an empty one stands -/
namespace MS
open PySem PySem.SeqAt PySem.W PySem.Calls PyProof.Rows
theorem call_tuple_lt {prog : Program} {w : World} {A : Around} {s : Shared} {E : Value → Shared → Prop} {Q : Value → Shared → Prop} {l b : Addr} {items items2 : Array Value} {e r : Nat → Bool} (hl : s.heap.IsTuple l items) (hb : s.heap.IsTuple b items2)
    (he : ∀ j (h1 : j < items.size) (h2 : j < items2.size), EqAt A.in1 s items[j] items2[j] (e j)) (hr : ∀ j (h1 : j < items.size) (h2 : j < items2.size), e j = false → RcLt A.in1 s items[j] items2[j] (r j))
    (h : Q (.bool (firstLt e r (decide (items.size < items2.size)) (List.range (min items.size items2.size)))) s) : wpAny (model prog w) A (call (.builtin "tuple.__lt__") [.ref l, .ref b]) Q E s := by
  obtain ⟨⟨cls, dd, data, sl⟩, ho, hc, n, hd⟩ := id hl
  obtain ⟨⟨cls2, dd2, data2, sl2⟩, ho2, hc2, n2, hd2⟩ := id hb
  simp only at hc hd hc2 hd2
  subst hc hd hc2 hd2
  exact call_meets F.slot_tuple_lt ⟨_, ho, rfl⟩ F.entry_tuple_lt (F.args_tuple_lt_2 _ _) (tuple_ltAt l b items items2 n n2 dd dd2 sl sl2 e r) ⟨ho, ho2, he, hr, h⟩
section
variable {prog : Program} {w : World} {A : Around} {E : Value → Shared → Prop} {s : Shared}
/-- one tuple against another one, both of one type -/
theorem oneLt_tups {xs ys : List PyData} {a b : Value} {as bs : List Addr} {Q : Bool → Shared → Prop} (ra : Reads s.heap a (.tuple xs) as) (rb : Reads s.heap b (.tuple ys) bs) (h : alike (.tuple xs) (.tuple ys) = true)
    (hu : A.units + min (PyData.tuple xs).depth (PyData.tuple ys).depth < cLine) (hq : Q (dataLt (.tuple xs) (.tuple ys)) s) : wpAny (model prog w) A (oneLt' true a b) Q E s := by
  have hal : alikeAll xs ys = true := by simpa [alike] using h
  cases ra with
  | @tuple l o vs n _ as₁ h1 h2 h3 h4 =>
    cases rb with
    | @tuple l' o' vs' n' _ bs₁ k1 k2 k3 k4 =>
      have n1 : vs.size = xs.length := by simpa using SeqAt.ReadsAll.length _ _ _ h4
      have n2 : vs'.size = ys.length := by simpa using SeqAt.ReadsAll.length _ _ _ k4
      rw [dataLt_tuple, ← firstLt_toks xs ys hal, ← n1, ← n2] at hq
      rw [oneLt'_eq]
      simp only [if_true]
      refine wpAny_bind (wpAny_cRoomFor (room_here hu) ?_)
      refine wpAny_bind (wpAny_callSpecialIfBound?_slot (T := "tuple") ⟨_, h1, h2⟩ F.slot_tuple_lt (call_tuple_lt (e := pairEq xs ys) (r := fun j => dataLt (xs.getD j .none) (ys.getD j .none)) ⟨_, h1, h2, _, h3⟩ ⟨_, k1, k2, _, k3⟩ (fun j j1 j2 => ?_) (fun j j1 j2 hj => ?_) ?_))
      · have := eqAt_alikeAll xs ys A.in1 s vs.toList vs'.toList _ _ h4 k4 hal (room_in hu) j (by simpa using j1) (by simpa using j2)
        simpa using this
      · have := rcLt_alikeAll xs ys A.in1 s vs.toList vs'.toList _ _ h4 k4 hal (room_in hu) j (by simpa using j1) (by simpa using j2) hj
        simpa using this
      · exact wpAny_truthy_bool hq
def fstO : PyData → Bool
  | .tuple (_ :: _) => true
  | _ => false
theorem firsts_tups {M : Model} {A : Around} {E : Value → Shared → Prop} {s : Shared} : ∀ {vs : List Value} {ds : List PyData}, EachIs (fun v d => ∃ as, Reads s.heap v d as) vs ds → (∀ d, d ∈ ds → ∃ xs, d = .tuple xs) →
    ∃ fs : List (Option Value), fs.map (·.isSome) = ds.map fstO ∧ ∀ {Q : List (Option Value) → Shared → Prop}, Q fs s → wpAny M A (vs.mapM firstOfTuple') Q E s
  | _, _, .nil, _ => ⟨[], rfl, fun h => by rw [List.mapM_nil]; exact wpAny_pure h⟩
  | _, _, .cons (a := v) (b := d) ⟨as, r⟩ t, ht => by
    obtain ⟨fs, h1, h2⟩ := firsts_tups t fun d hd => ht d (List.mem_cons_of_mem _ hd)
    obtain ⟨ys, rfl⟩ := ht d List.mem_cons_self
    cases r with
    | @tuple a o xs n _ _ ho hc hd hr =>
      refine ⟨xs[0]? :: fs, ?_, fun {Q} h => ?_⟩
      · rw [List.map_cons, List.map_cons, h1]
        congr 1
        have n1 : xs.size = ys.length := by simpa using SeqAt.ReadsAll.length _ _ _ hr
        cases ys with
        | nil => simp [fstO]; exact Array.size_eq_zero_iff.mp n1
        | cons y r => simp [fstO, n1]
      · rw [List.mapM_cons]
        refine wpAny_bind ?_
        rw [kas_first_eq]
        refine wpAny_bind (Looks.here (show Looks M s.heap (typeOf (.ref a)) o.cls from (Looks.ld ho).andThen .now) ?_)
        rw [hc, if_neg (by first | decide | simp)]
        refine wpAny_bind (listItems_at ho hd (wpAny_pure ?_))
        exact wpAny_bind (h2 (Q := fun bs s' => wpAny M A (pure (xs[0]? :: bs)) Q E s') (wpAny_pure h))
/-- values that read as alike tuples, empty ones too, can be sorted -/
theorem SortsAt.tups {vs : List Value} {ds : List PyData} (e : EachIs (fun v d => ∃ as, Reads s.heap v d as) vs ds) (hal : AllAlike ds) (ht : ∀ d, d ∈ ds → ∃ xs, d = .tuple xs) (hu : ∀ d, d ∈ ds → A.units + d.depth < cLine) : SortsAt prog w A s (dataKind s.heap ds) vs := by
  by_cases hn : ∀ d, d ∈ ds → ∃ x r, d = .tuple (x :: r)
  · exact SortsAt.data e hal (.inl hn) hu
  have he : ∃ d ∈ ds, fstO d = false := by
    refine Classical.byContradiction fun q => hn fun d hd => ?_
    obtain ⟨xs, rfl⟩ := ht d hd
    cases xs with
    | nil => exact absurd ⟨_, hd, rfl⟩ q
    | cons x r => exact ⟨x, r, rfl⟩
  have room : ∀ {d d' : PyData}, d ∈ ds → A.units + min d.depth d'.depth < cLine := fun {d d'} hd => Nat.lt_of_le_of_lt (Nat.add_le_add_left (Nat.min_le_left _ _) _) (hu d hd)
  have nn : ∀ d ∈ ds, d ≠ .none := fun d hd => by obtain ⟨xs, rfl⟩ := ht d hd; simp
  refine ⟨fun v hv => ?_, ?_⟩
  · obtain ⟨d, hd, as, r⟩ := e.left v hv
    exact ⟨_, dataKind_some hal hd r⟩
  · have gen : H.LtAt prog w A s (dataKind s.heap ds) general' := by
      intro E x y a b Q ha hb hq
      obtain ⟨d, as, hd, ra, rfl⟩ := dataKind_inv ha
      obtain ⟨d', as', hd', rb, rfl⟩ := dataKind_inv hb
      exact oneLt_alike (f := false) (fun z => by cases z) ra rb (hal d hd d' hd') (nn d hd) (room hd) hq
    have one : H.LtAt prog w A s (dataKind s.heap ds) oneType' := by
      intro E x y a b Q ha hb hq
      obtain ⟨d, as, hd, ra, rfl⟩ := dataKind_inv ha
      obtain ⟨d', as', hd', rb, rfl⟩ := dataKind_inv hb
      rw [keyLt'_oneType]
      obtain ⟨xs, rfl⟩ := ht d hd
      obtain ⟨ys, rfl⟩ := ht d' hd'
      exact oneLt_tups ra rb (hal _ hd _ hd') (room (d' := .tuple ys) hd) hq
    cases ds with
    | nil =>
      obtain ⟨d, hd, _⟩ := he
      cases hd
    | cons d₀ ds₀ =>
      have hall : ∀ {fs : List (Option Value)}, fs.map (·.isSome) = (d₀ :: ds₀).map fstO → (fs.toArray.all fun x => x.isSome) = false := by
        intro fs h
        rw [List.all_toArray]
        have q : (fs.all fun x => x.isSome) = ((d₀ :: ds₀).map fstO).all id := by rw [← h, List.all_map]; rfl
        rw [q, List.all_map]
        obtain ⟨d, hd, hf⟩ := he
        refine Bool.eq_false_iff.mpr fun z => ?_
        have := (List.all_eq_true.mp z) d hd
        rw [show (id ∘ fstO) d = fstO d from rfl, hf] at this
        cases this
      have hfst : ∀ {fs : List (Option Value)}, fs.map (·.isSome) = (d₀ :: ds₀).map fstO → ((fs.toArray[0]?.bind id).isSome) = fstO d₀ := by
        intro fs h
        cases fs with
        | nil => cases h
        | cons f r =>
          have := (List.cons.inj h).1
          rw [← this]
          simp
      cases hf : fstO d₀ with
      | true =>
        refine ⟨general', gen, fun h2 E Q hq => ?_⟩
        obtain ⟨fs, f1, f2⟩ := firsts_tups (M := model prog w) (A := A) (E := E) e ht
        rw [kat_kind_eq, List.mapM_toArray, map_eq_pure_bind]
        refine wpAny_bind (wpAny_bind (f2 (wpAny_pure ?_)))
        rw [if_neg (by rw [hall f1]; decide), if_pos (by rw [hfst f1, hf])]
        exact wpAny_pure hq
      | false =>
        refine ⟨oneType', one, fun h2 E Q hq => ?_⟩
        obtain ⟨fs, f1, f2⟩ := firsts_tups (M := model prog w) (A := A) (E := E) e ht
        rw [kat_kind_eq, List.mapM_toArray, map_eq_pure_bind]
        refine wpAny_bind (wpAny_bind (f2 (wpAny_pure ?_)))
        rw [if_neg (by rw [hall f1]; decide), if_neg (by rw [hfst f1, hf]; decide)]
        rw [oneTypeOnly'_eq, List.mapM_toArray, map_eq_pure_bind]
        have hT : ∀ v ∈ vs, Looks (model prog w) s.heap (typeOf v) (.type "tuple") := fun v hv => by
          obtain ⟨d, hd, as, r⟩ := e.left v hv
          obtain ⟨xs, rfl⟩ := ht d hd
          exact looks_reads r
        refine wpAny_bind (wpAny_bind (wpAny_bind (kas_mapM (r := .type "tuple") _ (fun v hv Q' hq => (hT v hv).here hq) (wpAny_pure ?_))))
        have hall2 : ((List.map (fun _ => Value.type "tuple") vs).toArray.all fun x => x == Value.type "tuple") = true := by
          simp
        have h0 : (List.map (fun _ => Value.type "tuple") vs).toArray[0]? = some (Value.type "tuple") := by
          cases vs with
          | nil => simp at h2
          | cons _ _ => simp
        rw [h0]
        simp only [hall2, if_true]
        exact wpAny_pure (wpAny_pure hq)
/-- may be sorted: all tuples, or none a tuple or None -/
def Srtb (ds : List PyData) : Prop := (∀ d, d ∈ ds → ∃ xs, d = .tuple xs) ∨ ∀ d, d ∈ ds → d ≠ .none ∧ ∀ xs, d ≠ .tuple xs
theorem SortsAt.srt {vs : List Value} {ds : List PyData} (e : EachIs (fun v d => ∃ as, Reads s.heap v d as) vs ds) (hal : AllAlike ds) (hk : Srtb ds) (hu : ∀ d, d ∈ ds → A.units + d.depth < cLine) : SortsAt prog w A s (dataKind s.heap ds) vs :=
  hk.elim (fun ht => SortsAt.tups e hal ht hu) fun hn => SortsAt.data e hal (.inr hn) hu
theorem sorted_data' {β : Type} {vs : List Value} {bs : List β} {enc : β → PyData} {R : Value → β → Prop} {l : Addr} {Q : Value → Shared → Prop} (hl : s.heap.IsList l vs.toArray) (e : EachIs R vs bs) (er : EachIs (fun v b => ∃ as, Reads s.heap v (enc b) as) vs bs) (hal : AllAlike (bs.map enc)) (hk : Srtb (bs.map enc)) (hL : bs.length ≤ sizeLine)
    (hu : ∀ b, b ∈ bs → A.units + 2 + (enc b).depth < cLine) (h : ∀ out, out.length = bs.length → EachIs R out (bs.mergeSort (dataLe false enc)) → Q (.ref (s.heap.objs.size + 1)) { s with heap := sortedAll s.heap vs (List.toArray out) }) :
    wpAny (model prog w) A (call (.builtin "sorted") [.ref l]) Q E s := by
  have er' : EachIs (fun v b => ∃ as, Reads (sortingHeap (copyHeap s.heap vs) (s.heap.objs.size + 1) vs) v (enc b) as) vs bs := er.mono fun _ _ ⟨as, r⟩ => ⟨as, PyProof.Rows.Reads.keeps (fun _ _ => sorting_copy_old) r⟩
  exact sorted_vals hl (SortsAt.srt (s := { s with heap := sortingHeap (copyHeap s.heap vs) (s.heap.objs.size + 1) vs }) (each_map (R := fun v d => ∃ as, Reads (sortingHeap (copyHeap s.heap vs) (s.heap.objs.size + 1) vs) v d as) enc er') hal hk (bound_map hu)) (by rw [e.length]; exact hL)
    (h _ (by rw [sortVals_length false rfl]; exact e.length) (sortVals_data false e er' hal))
end
end MS
namespace M
open PySem PySem.Spec PyProof.Rows L2
/-! ### min and sorted of data -/
theorem minD_mem (d : PyData) : ∀ ds : List PyData, PySem.W.minD d ds ∈ d :: ds := by
  intro ds
  unfold PySem.W.minD
  induction ds generalizing d with
  | nil => simp
  | cons e r ih =>
    rw [List.foldl_cons]
    rcases List.mem_cons.mp (ih (if PySem.W.dataLt e d then e else d)) with h | h
    · rw [h]; split <;> simp
    · exact List.mem_cons_of_mem _ (List.mem_cons_of_mem _ h)
theorem Vals.back : ∀ {xs : List V} {us : List Value} {i : Nat} {u : Value}, Vals xs us → us[i]? = some u → ∃ x, xs[i]? = some x ∧ RelV x u
  | _, _, _, _, .nil, e => by simp at e
  | _, _, 0, _, .cons r _, e => by simp at e; subst e; exact ⟨_, rfl, r⟩
  | _, _, i + 1, u, .cons _ t, e => by
    obtain ⟨x, h1, h2⟩ := Vals.back (i := i) (u := u) t (by simpa using e)
    exact ⟨x, by simpa using h1, h2⟩
theorem dpAll_len {K : PySem.W.Frag} {H : Hp} : ∀ {xs : List V} {ds : List PyData}, DpAll K H xs ds → xs.length = ds.length
  | _, _, .nil => rfl
  | _, _, .cons _ t => congrArg Nat.succ (dpAll_len t)
def rMinD (K : PySem.W.Frag) : List V → Hp → VK → Prop := fun vs H Q => ∃ (a : Addr) (xs : List V) (d : PyData) (ds : List PyData), vs = [.ref a] ∧ (SqL K H a xs ∨ SqT K H a xs) ∧ DpAll K H xs (d :: ds) ∧ PySem.W.AlikeAll (d :: ds) ∧ PyData.depthAll (d :: ds) ≤ 64 ∧
  ∀ (i : Nat) (y : V), xs[i]? = some y → (d :: ds)[i]? = some (PySem.W.minD d ds) → Q y H
section
variable {X : Cx}
theorem min_end {pins : List (Addr × PySem.Obj)} {σ : L2.St} {H : Hp} {s : Shared} {Q : VK} (I : Inv X pins σ H s) {xs : List V} {us : List Value} {ds : List PyData} {m : PyData} {as : List Addr} (rv : Vals xs us) (R : ReadsAll s.heap us ds as) (ha : PySem.W.AlikeAll ds) (hm : m ∈ ds)
    (q : ∀ (i : Nat) (y : V), xs[i]? = some y → ds[i]? = some m → Q y H) {i : Nat} {v : Value} {h' : PySem.Heap} {tk : Nat} {bs : List Addr} (hv : us[i]? = some v) (hr : Reads h' v m bs) (hk : ∀ b o, s.heap.get? b = some o → h'.get? b = some o) : EP X pins σ Q v { s with heap := h', toks := tk } := by
  obtain ⟨y, hy, ry⟩ := Vals.back rv hv
  refine ⟨y, H, I.kept hk, ry, q i y hy ?_⟩
  obtain ⟨cs, r1, r2, r3, _⟩ := PySem.W.readsAll_at R i v hv
  have e : ds.getD i .none = m := PySem.W.alike_unique _ _ _ _ _ (ha.1 _ r3 _ hm) (PySem.W.reads_keeps hk r1) hr
  rw [← e]
  simp [List.getD, r2]
theorem cr_minD (hc : X.calm = true) (hu : X.A.units + 66 < cLine) : CallR X (.builtin "min") (rMinD X.K) := fun pins s σ H vs us Q I r h => by
  obtain ⟨a, xs, d, ds, rfl, hs, hd, ha, hz, q⟩ := h
  rw [Vals.ref1 r]
  rcases hs with hs | hs
  · obtain ⟨its, rv, pl, _⟩ := I.list hs
    obtain ⟨as, R⟩ := Dp.readsAll I (d :: ds) xs its hd rv
    exact PySem.W.min_list_data (I.ok.hd hc) pl.isList (by simpa using R) ha (by omega) fun i v h' tk bs hv hr hk => min_end I rv R ha (minD_mem d ds) q (by simpa using hv) hr hk
  · obtain ⟨its, rv, pl, _⟩ := I.tuple hs
    obtain ⟨as, R⟩ := Dp.readsAll I (d :: ds) xs its hd rv
    exact PySem.W.min_tuple_data (I.ok.hd hc) pl (by simpa using R) ha (by omega) fun i v h' tk bs hv hr hk => min_end I rv R ha (minD_mem d ds) q (by simpa using hv) hr hk
/-- min(.., default=..) -/
def rMinO (K : PySem.W.Frag) : List V → List V → Hp → VK → Prop := fun vs zs H Q => ∃ (a : Addr) (xs : List V) (ds : List PyData) (z : V), vs = [.ref a] ∧ zs = [z] ∧ (SqL K H a xs ∨ SqT K H a xs) ∧ DpAll K H xs ds ∧ PySem.W.AlikeAll ds ∧ PyData.depthAll ds ≤ 64 ∧
  (ds = [] → Q z H) ∧ ∀ (e : PyData) (es : List PyData), ds = e :: es → ∀ (i : Nat) (y : V), xs[i]? = some y → ds[i]? = some (PySem.W.minD e es) → Q y H
theorem cr_minO (hc : X.calm = true) (hu : X.A.units + 66 < cLine) : CallRK X (.builtin "min") ["default"] (rMinO X.K) := fun pins s σ H vs zs us ws Q I r rz h => by
  obtain ⟨a, xs, ds, z, rfl, rfl, hs, hd, ha, hz, q0, q⟩ := h
  rw [Vals.ref1 r]
  obtain ⟨zv, rfl, rzv⟩ := Vals.one rz
  have go : ∀ {its : List Value} {as : List Addr}, Vals xs its → ReadsAll s.heap its ds as → (∀ {vs : Array Value}, vs.toList = its → (∀ y ys (i : Nat) v h' tk bs, ds = y :: ys → vs[i]? = some v → Reads h' v (PySem.W.minD y ys) bs → (∀ b o, s.heap.get? b = some o → h'.get? b = some o) → EP X pins σ Q v { s with heap := h', toks := tk })) := by
    intro its as rv R vs ev y ys i v h' tk bs e hv hr hk
    subst ev
    exact min_end I rv R ha (by rw [e]; exact minD_mem y ys) (q y ys e) (by simpa using hv) hr hk
  rcases hs with hs | hs
  · obtain ⟨its, rv, pl, _⟩ := I.list hs
    obtain ⟨as, R⟩ := Dp.readsAll I ds xs its hd rv
    exact PySem.W.min_list_default (I.ok.hd hc) pl.isList (by simpa using R) ha (by omega) (fun e h' tk hk => ⟨z, H, I.kept hk, rzv, q0 e⟩) (go rv R (by simp))
  · obtain ⟨its, rv, pl, _⟩ := I.tuple hs
    obtain ⟨as, R⟩ := Dp.readsAll I ds xs its hd rv
    exact PySem.W.min_tuple_default (I.ok.hd hc) pl (by simpa using R) ha (by omega) (fun e h' tk hk => ⟨z, H, I.kept hk, rzv, q0 e⟩) (go rv R (by simp))
/-! ### sorted -/
theorem dpAll_mem {K : PySem.W.Frag} {H : Hp} : ∀ {ps : List (V × PyData)}, DpAll K H (ps.map Prod.fst) (ps.map Prod.snd) → ∀ p ∈ ps, Dp K H p.1 p.2
  | [], _, p, h => by cases h
  | q :: r, .cons h t, p, hp => by
    rcases List.mem_cons.mp hp with rfl | hp
    · exact h
    · exact dpAll_mem t p hp
theorem each_vals : ∀ {ps : List (V × PyData)} {us : List Value}, Vals (ps.map Prod.fst) us → PySem.W.EachIs (fun v p => RelV p.1 v) us ps
  | [], _, .nil => .nil
  | _ :: _, _, .cons r t => .cons r (each_vals t)
theorem vals_each : ∀ {ps : List (V × PyData)} {us : List Value}, PySem.W.EachIs (fun v p => RelV p.1 v) us ps → Vals (ps.map Prod.fst) us
  | _, _, .nil => .nil
  | _, _, .cons r t => .cons r (vals_each t)
theorem each_reads {h : PySem.Heap} : ∀ {ps : List (V × PyData)} {us : List Value} {as : List Addr}, ReadsAll h us (ps.map Prod.snd) as → PySem.W.EachIs (fun v p => ∃ as, Reads h v p.2 as) us ps
  | [], _, _, r => by cases r; exact .nil
  | p :: ps, _, _, r => by
    cases r with
    | cons r1 r2 => exact .cons ⟨_, r1⟩ (each_reads r2)
def leP : V × PyData → V × PyData → Bool := PySem.W.dataLe false Prod.snd
def rSortG (K : PySem.W.Frag) : List V → Hp → VK → Prop := fun vs H Q => ∃ (a : Addr) (ps : List (V × PyData)), vs = [.ref a] ∧ SqL K H a (ps.map Prod.fst) ∧ DpAll K H (ps.map Prod.fst) (ps.map Prod.snd) ∧ PySem.W.AllAlike (ps.map Prod.snd) ∧ MS.Srtb (ps.map Prod.snd) ∧ (∀ p ∈ ps, p.2.depth ≤ 64) ∧ ps.length ≤ sizeLine ∧
  ∀ l, H l = none → Q (.ref l) (upd H l (.lst ((ps.mergeSort leP).map Prod.fst)))
theorem cr_sortG (hc : X.calm = true) (hu : X.A.units + 67 < cLine) : CallR X (.builtin "sorted") (rSortG X.K) := fun pins s σ H vs us Q I r h => by
  obtain ⟨a, ps, rfl, hs, hd, ha, hk, hz, hl, q⟩ := h
  rw [Vals.ref1 r]
  obtain ⟨its, rv, pl, _⟩ := I.list hs
  obtain ⟨as, R⟩ := Dp.readsAll I (ps.map Prod.snd) (ps.map Prod.fst) its hd rv
  refine MS.sorted_data' (bs := ps) (enc := Prod.snd) pl.isList (each_vals rv) (each_reads R) ha hk hl (fun p hp => by have := hz p hp; omega) fun out ho eo => ?_
  have ge : s.heap.objs.size ≤ s.heap.objs.size + 1 := Nat.le_succ _
  have n : H (s.heap.objs.size + 1) = none := I.hok.fresh ge
  refine ⟨.ref (s.heap.objs.size + 1), upd H (s.heap.objs.size + 1) (.lst ((ps.mergeSort leP).map Prod.fst)), I.laid (t' := s.toks) (fun b u e => PyProof.Rows.sortedAll_old e) ge ?_, rfl, q _ n⟩
  obtain ⟨c, e⟩ := PyProof.Rows.sortedAll_at s.heap its (List.toArray out)
  refine ⟨by rw [List.length_map, List.length_mergeSort]; exact hl, out, c, vals_each eo, e⟩
end
end M
namespace M
open PySem PySem.Spec PyProof.Rows L2
/-! ### truth -/
section
variable {X : Cx}
theorem truth_of {S : RS} (g : Good S) {v : Val} {x : V} {b : Bool} (r : Rel S v x) (e : truth S.h v = some b) : TruV S.K x S.H b := by
  unfold truth at e
  cases q : dr S.h v with
  | none => rw [q] at e; cases e
  | some w =>
    rw [q] at e
    have d := dr_rel g r q
    cases w with
    | none => cases e; cases d; rfl
    | bool c => cases e; cases d; rfl
    | int i =>
      cases e; cases d
      show decide (i ≠ 0) = (i != 0)
      by_cases h : i = 0
      · subst h; rfl
      · rw [decide_eq_true h]; symm; simpa using h
    | str s =>
      cases e
      obtain ⟨rfl, a⟩ := d
      refine ⟨by rw [toS_len, ← SL_eq]; exact (asc_iff.mp a).2, ?_⟩
      rw [toS_len]
      cases s <;> rfl
    | tup xs =>
      cases e
      obtain ⟨a, ys, rfl, h, r⟩ := d
      refine .inr (.inl ⟨ys, h, ?_⟩)
      have := r.len
      cases xs <;> cases ys <;> first | rfl | simp at this
    | list xs =>
      cases e
      obtain ⟨a, ys, rfl, h, r⟩ := d
      refine .inl ⟨ys, .inl (.inl h), ?_⟩
      have := r.len
      cases xs <;> cases ys <;> first | rfl | simp at this
    | _ => cases e
theorem truthR_of {S : RS} {B D : Type} {R : RS → B → D → Prop} {v : Val} {k : Bool → Heap → Res B} {Q : D → Hp → Prop} (p : PostG R S ((truthR v S.h).bind k) Q) : ∃ b, truth S.h v = some b ∧ PostG R S (k b S.h) Q := by
  unfold truthR at p
  cases e : truth S.h v with
  | none => rw [e] at p; exact p.elim
  | some b => rw [e] at p; exact ⟨b, rfl, p⟩
/-- first f, then, in the new state, what g tells -/
theorem tM_bind {B D A' : Type} {C : Type} {K : PySem.W.Frag} {R : RS → A' → B → Prop} {R' : RS → C → D → Prop} {f : Loc → Heap → Res A'} {g : Loc → A' → Heap → Res C} {σ : L2.St} {H : Hp} {Q : D → Hp → Prop} {Z : B → Hp → Prop}
    (q : tG K R' (fun ls h => (f ls h).bind fun v h => g ls v h) σ H Q)
    (k : ∀ v x S ls, S.K = K → Good S → LRel S ls σ → R S v x → PostG R' S (g ls v S.h) Q → Z x S.H) : tG K R f σ H Z := tG.seq (g := g) q k
variable {f g f' : Loc → Heap → Res Val} {e a b d : Expr} {pos : Pos}
theorem pt_truthM (h : PE X e (tM X.K f)) (he : ∀ whole, isTrue e X.env whole = (do let v ← whole; standAt e.pos; holding [v] (truthy v))) : PT X e (tB X.K fun ls h => (f ls h).bind truthR) := by
  refine PT.wk (pt_truth h he) fun σ H Q q => ?_
  refine tM_bind (g := fun _ v h => truthR v h) q fun v x S ls hK g l r p => ?_
  have p : PostG RB S ((truthR v S.h).bind fun b h => .ok b h) Q := by
    cases q : truthR v S.h with
    | ok b h => rw [q] at p; exact p
    | exc _ _ => rw [q] at p; exact p
    | stuck => rw [q] at p; exact p
  obtain ⟨b, e1, p⟩ := truthR_of p
  exact ⟨b, by rw [← hK]; exact truth_of g r e1, PostG.here p g rfl⟩
/-! ### and, or, not, if -/
theorem tAndT_M (q : tM X.K (fun ls h => (f ls h).bind fun v h => (truthR v h).bind fun t h => if t then g ls h else .ok v h) σ H Q) : tAndT X.K (tM X.K f) (tM X.K g) σ H Q := by
  refine tM_bind (g := fun ls v h => (truthR v h).bind fun t h => if t then g ls h else .ok v h) q fun v x S ls hK g1 l r p => ?_
  obtain ⟨b, e1, p⟩ := truthR_of p
  refine ⟨b, by rw [← hK]; exact truth_of g1 r e1, ?_⟩
  cases b with
  | true => exact tG.mk hK g1 l p
  | false => exact old_val g1 r p
theorem tOrT_M (q : tM X.K (fun ls h => (f ls h).bind fun v h => (truthR v h).bind fun t h => if t then .ok v h else g ls h) σ H Q) : tOrT X.K (tM X.K f) (tM X.K g) σ H Q := by
  refine tM_bind (g := fun ls v h => (truthR v h).bind fun t h => if t then .ok v h else g ls h) q fun v x S ls hK g1 l r p => ?_
  obtain ⟨b, e1, p⟩ := truthR_of p
  refine ⟨b, by rw [← hK]; exact truth_of g1 r e1, ?_⟩
  cases b with
  | false => exact tG.mk hK g1 l p
  | true => exact old_val g1 r p
theorem tNotT_M (q : tM X.K (fun ls h => (f ls h).bind fun v h => (truthR v h).bind fun t h => .ok (.bool (!t)) h) σ H Q) : tNotT X.K (tM X.K f) σ H Q := by
  refine tM_bind (g := fun ls v h => (truthR v h).bind fun t h => .ok (Val.bool (!t)) h) q fun v x S ls hK g1 l r p => ?_
  obtain ⟨b, e1, p⟩ := truthR_of p
  exact ⟨b, by rw [← hK]; exact truth_of g1 r e1, old_bl g1 p⟩
variable {ft gt : Loc → Heap → Res Bool}
theorem tIf_M (q : tM X.K (fun ls h => (ft ls h).bind fun t h => if t then f ls h else g ls h) σ H Q) : tIf (tB X.K ft) (tM X.K f) (tM X.K g) σ H Q := by
  refine tM_bind (g := fun ls t h => if t then f ls h else g ls h) q fun t c S ls hK g1 l r p => ?_
  cases r
  cases t with
  | true => exact tG.mk hK g1 l p
  | false => exact tG.mk hK g1 l p
theorem tAnd_M (q : tB X.K (fun ls h => (ft ls h).bind fun t h => if t then gt ls h else .ok false h) σ H Q) : tAnd (tB X.K ft) (tB X.K gt) σ H Q := by
  refine tM_bind (g := fun ls t h => if t then gt ls h else .ok false h) q fun t c S ls hK g1 l r p => ?_
  cases r
  cases t with
  | true => exact tG.mk hK g1 l p
  | false => exact PostG.here p g1 rfl
theorem tOr_M (q : tB X.K (fun ls h => (ft ls h).bind fun t h => if t then .ok true h else gt ls h) σ H Q) : tOr (tB X.K ft) (tB X.K gt) σ H Q := by
  refine tM_bind (g := fun ls t h => if t then .ok true h else gt ls h) q fun t c S ls hK g1 l r p => ?_
  cases r
  cases t with
  | true => exact PostG.here p g1 rfl
  | false => exact tG.mk hK g1 l p
theorem tNot_M (q : tB X.K (fun ls h => (ft ls h).bind fun t h => .ok (!t) h) σ H Q) : tNot (tB X.K ft) σ H Q := by
  refine tM_bind (g := fun ls t h => .ok (!t) h) q fun t c S ls hK g1 l r p => ?_
  cases r
  exact PostG.here p g1 rfl
/-! ### operators -/
theorem tOp_M {p : P} {r : R2} (hp : PR2 X p r) (q : tM X.K (fun ls h => (f ls h).bind fun v h => (g ls h).bind fun w h => evP p [v, w] h) σ H Q) : tOp r (tM X.K f) (tM X.K g) σ H Q := by
  refine tM_bind (g := fun ls v h => (g ls h).bind fun w h => evP p [v, w] h) q fun v x S ls hK g1 l rv p1 => ?_
  exact tG.mk hK g1 l (PostG.bind p1 fun w y S2 _ g2 e2 r2 p2 => hp S2 v w x y Q (e2.K.trans hK) g2 (rv.ext e2) r2 p2)
theorem tUn_M {p : P} {r : V → Hp → VK → Prop} (hp : PR1 X p r) (q : tM X.K (fun ls h => (f ls h).bind fun v h => evP p [v] h) σ H Q) : tUn r (tM X.K f) σ H Q := by
  refine tM_bind (g := fun ls v h => evP p [v] h) q fun v x S ls hK g1 l rv p1 => ?_
  exact hp S v x Q hK g1 rv p1
/-- .. with a constant on the right -/
theorem tOpC_M {p : P} {r : R2} {y : V} (hp : PR1 X p (fun x H Q => r x y H Q)) (q : tM X.K (fun ls h => (f ls h).bind fun v h => evP p [v] h) σ H Q) : tOp r (tM X.K f) (tC y) σ H Q := by
  refine tM_bind (g := fun ls v h => evP p [v] h) q fun v x S ls hK g1 l rv p1 => ?_
  exact hp S v x Q hK g1 rv p1
def boolP (p : P) : Prop := ∀ (vs : List Val) (h h' : Heap) (v : Val), evP p vs h = .ok v h' → ∃ b, v = .bool b
/-- a comparison's value as a test -/
theorem tTest_M {t : TE} {F : Loc → Heap → Res Val} (ht : ∀ σ H Q, tM X.K F σ H Q → t σ H Q) (hb : ∀ ls h h' v, F ls h = .ok v h' → ∃ b, v = .bool b) (q : tB X.K (fun ls h => (F ls h).bind truthR) σ H Q) : tTest t σ H Q := by
  refine ht σ H _ ?_
  obtain ⟨S, ls, hK, hH, g, l, p⟩ := q
  subst hH
  refine ⟨S, ls, hK, rfl, g, l, ?_⟩
  have p : PostG RB S ((F ls S.h).bind truthR) Q := p
  cases e : F ls S.h with
  | ok v h =>
    rw [e] at p
    obtain ⟨b, rfl⟩ := hb _ _ _ _ e
    intro S' x e1 g' e2 r
    cases r
    exact ⟨b, rfl, p S' b e1 g' e2 rfl⟩
  | exc _ _ => rw [e] at p; exact p
  | stuck => rw [e] at p; exact p
theorem tChain_M {p q : P} {r r' : R2} (hp : PR2 X p r) (hq : PR2 X q r') (hb : boolP p) (z : tM X.K (fun ls h => (f ls h).bind fun x h => (g ls h).bind fun y h => (evP p [x, y] h).bind fun (v : Val) h => (match v with
    | .bool true => (f' ls h).bind fun z h => evP q [y, z] h
    | .bool false => .ok (.bool false) h
    | _ => .stuck)) σ H Q) : tChain r r' (tM X.K f) (tM X.K g) (tM X.K f') σ H Q := by
  refine tM_bind (g := fun ls x h => (g ls h).bind fun y h => (evP p [x, y] h).bind fun (v : Val) h => (match v with
    | .bool true => (f' ls h).bind fun z h => evP q [y, z] h
    | .bool false => .ok (.bool false) h
    | _ => .stuck)) z fun v x S ls hK g1 l rv p1 => ?_
  refine tG.mk hK g1 l (PostG.bind p1 fun w y S2 _ g2 e2 r2 p2 => ?_)
  refine hp S2 v w x y _ (e2.K.trans hK) g2 (rv.ext e2) r2 ?_
  cases e : evP p [v, w] S2.h with
  | ok u h =>
    rw [e] at p2
    obtain ⟨b, rfl⟩ := hb _ _ _ _ e
    intro S3 zz h3 g3 e3 r3
    cases r3
    subst h3
    refine ⟨b, rfl, ?_⟩
    have p3 := PostG.ext p2 e3
    cases b with
    | false => exact old_bl g3 p3
    | true =>
      have hK3 : S3.K = X.K := e3.K.trans (e2.K.trans hK)
      refine tG.mk hK3 g3 ((l.ext e2).ext e3) (PostG.bind (g := fun z h => evP q [w, z] h) p3 fun z zv S4 _ g4 e4 r4 p4 => ?_)
      exact hq S4 w z y zv Q (e4.K.trans hK3) g4 ((r2.ext e3).ext e4) r4 p4
  | exc _ _ => rw [e] at p2; exact p2
  | stuck => rw [e] at p2; exact p2
/-! ### calls of built-ins, displays -/
variable {fs : Loc → Heap → Res (List Val)}
theorem tCB_M {p : P} {r : List V → Hp → VK → Prop} (hp : PRc X p r) (q : tM X.K (fun ls h => (fs ls h).bind fun vs h => evP p vs h) σ H Q) : tCB r (tAs X.K fs) σ H Q :=
  tM_bind (g := fun ls vs h => evP p vs h) q fun vs xs S ls hK g1 l rv p1 => hp S vs xs Q hK g1 rv p1
theorem tTup_M (q : tM X.K (fun ls h => (fs ls h).bind fun vs h => evP .tup vs h) σ H Q) : tTup (tAs X.K fs) σ H Q :=
  tM_bind (g := fun ls vs h => evP .tup vs h) q fun vs xs S ls hK g1 l rv p1 => by
    obtain ⟨c, p1⟩ := okTup_of (vs := vs) p1
    exact ⟨by rw [← rv.len]; exact c, fun p n => new_tup g1 rv p1 n⟩
theorem tLst_M {m : Bool} (q : tM X.K (fun ls h => (fs ls h).bind fun vs h => evP (.list m) vs h) σ H Q) : tLst (tAs X.K fs) σ H Q :=
  tM_bind (g := fun ls vs h => evP (.list m) vs h) q fun vs xs S ls hK g1 l rv p1 => by
    have p1 : Post S (okList m vs S.h) Q := by
      match vs, p1 with
      | [], p1 => exact p1
      | [_], p1 => exact p1
      | [_, _], p1 => exact p1
      | [_, _, _], p1 => exact p1
      | _ :: _ :: _ :: _ :: _, p1 => exact p1
    obtain ⟨c, k⟩ := okList_of g1 rv p1
    exact ⟨by rw [← rv.len]; exact c, k⟩
theorem tBM_M {p : P} {T : String} {r : V → List V → Hp → VK → Prop} (hp : PRm X p T r) (ht : ∀ {S : RS} {v : Val} {x : V}, Good S → Rel S v x → recv p v S.h = true → tyV S.K T x S.H)
    (q : tM X.K (fun ls h => (f ls h).bind fun v h => if recv p v h then (fs ls h).bind fun vs h => evP p (v :: vs) h else .stuck) σ H Q) : tBM X.K T r (tM X.K f) (tAs X.K fs) σ H Q :=
  tM_bind (g := fun ls v h => if recv p v h then (fs ls h).bind fun vs h => evP p (v :: vs) h else .stuck) q fun v x S ls hK g1 l rv p1 => by
    obtain ⟨c, p1⟩ := ite_of p1
    exact ⟨by rw [← hK]; exact ht g1 rv c, tG.mk hK g1 l (PostG.bind p1 fun vs xs S2 _ g2 e2 r2 p2 => hp S2 v vs x xs Q (e2.K.trans hK) g2 (rv.ext e2) r2 p2)⟩
theorem tBM0_M {p : P} {T : String} {r : V → List V → Hp → VK → Prop} (hp : PRm X p T r) (ht : ∀ {S : RS} {v : Val} {x : V}, Good S → Rel S v x → recv p v S.h = true → tyV S.K T x S.H)
    (q : tM X.K (fun ls h => (f ls h).bind fun v h => if recv p v h then evP p [v] h else .stuck) σ H Q) : tBM0 X.K T r (tM X.K f) σ H Q :=
  tM_bind (g := fun ls v h => if recv p v h then evP p [v] h else .stuck) q fun v x S ls hK g1 l rv p1 => by
    obtain ⟨c, p1⟩ := ite_of p1
    exact ⟨by rw [← hK]; exact ht g1 rv c, hp S v [] x [] Q hK g1 rv rfl p1⟩
end
end M
namespace M
open PySem PySem.Spec PyProof.Rows L2
/-! ### the text's forms -/
/-- no star, no slice, no set -/
def plainE : Expr → Bool
  | .Starred .. => false
  | .Slice .. => false
  | .Set .. => false
  | _ => true
theorem star_plain {e : Expr} {es : List Expr} {env : Env} (h : plainE e = true) : starEach (e :: es) env = (false, eval e env) :: starEach es env := by
  cases e <;> first | rfl | cases h
theorem ix_plain {e : Expr} (h : plainE e = true) : PlainIx e := by
  intro o i
  cases e <;> first | rfl | cases h
theorem mark_plain {op : CmpOp} {e : Expr} (h : plainE e = true) : behindInMarks op e = false := by
  cases e <;> first | rfl | cases h
theorem fold_plain {e : Expr} {env : Env} (h : plainE e = true) : ∀ x, foldedSetIterable e env x = pure x := by
  intro x
  cases e <;> first | rfl | cases h
/-- its test is its value's truth -/
def trueE : Expr → Bool
  | .UnaryOp .Not .. => false
  | .BoolOp .. => false
  | .IfExp .. => false
  | .Compare .. => false
  | _ => true
theorem true_plain {e : Expr} {env : Env} (h : trueE e = true) : ∀ whole, isTrue e env whole = (do let v ← whole; standAt e.pos; holding [v] (truthy v)) := by
  intro whole
  cases e with
  | UnaryOp op a p => cases op <;> first | rfl | cases h
  | BoolOp _ _ _ => cases h
  | IfExp _ _ _ _ => cases h
  | Compare _ _ _ _ => cases h
  | _ => rfl
/-- no call without arguments by a name (super) -/
def baseE : Expr → Bool
  | .Call (.Name _ _) [] [] _ => false
  | _ => true
theorem base_plain {o : Expr} {m : Str} {env : Env} (h : baseE o = true) : attributeBase o m env (eval o env) = eval o env := by
  cases o with
  | Call f as ks p =>
    cases f with
    | Name x q =>
      cases as with
      | nil =>
        cases ks with
        | nil => cases h
        | cons _ _ => rfl
      | cons _ _ => rfl
    | _ => rfl
  | _ => rfl
def compE : Expr → Bool
  | .ListComp .. => true
  | .SetComp .. => true
  | .DictComp .. => true
  | _ => false
theorem swap_plain {e : Expr} {t : Option Expr} {l : Nat} {env : Env} (h : compE e = false) : swapsWith e t l env = pure false := by
  cases e <;> first | rfl | cases h
def plainsE (es : List Expr) : Bool := es.all plainE
theorem backs_plain {pos : Pos} {env : Env} : ∀ {es : List Expr}, plainsE es = true → (backTo pos (starEach es env)).any (·.1) = false
  | [], _ => rfl
  | e :: es, h => by
    have h' := Bool.and_eq_true_iff.mp (show (plainE e && plainsE es) = true from h)
    rw [star_plain h'.1]
    show (false || (backTo pos (starEach es env)).any (·.1)) = false
    rw [backs_plain h'.2]
    exact rfl
theorem backs_all {pos : Pos} {env : Env} : ∀ {es : List Expr}, plainsE es = true → (backTo pos (starEach es env)).all (fun x => !x.1) = true
  | [], _ => rfl
  | e :: es, h => by
    have h' := Bool.and_eq_true_iff.mp (show (plainE e && plainsE es) = true from h)
    rw [star_plain h'.1]
    show (true && (backTo pos (starEach es env)).all (fun x => !x.1)) = true
    rw [backs_all h'.2]
    exact rfl
def kwsE (ks : List Keyword) : Bool := ks.all fun k => k.arg.isSome
def kwN (ks : List Keyword) : List Str := ks.filterMap fun k => k.arg
theorem kw_facts {pos : Pos} {env : Env} : ∀ {ks : List Keyword}, kwsE ks = true → (backToKw pos (keywordEach ks env)).all (·.1.isSome) = true ∧ (backToKw pos (keywordEach ks env)).any (·.1.isNone) = false ∧ (backToKw pos (keywordEach ks env)).filterMap (·.1) = kwN ks
  | [], _ => ⟨rfl, rfl, rfl⟩
  | ⟨n, v, p⟩ :: ks, h => by
    have h' := Bool.and_eq_true_iff.mp (show (n.isSome && kwsE ks) = true from h)
    obtain ⟨h1, h2, h3⟩ := kw_facts (pos := pos) (env := env) h'.2
    cases n with
    | none => cases h'.1
    | some n =>
      refine ⟨?_, ?_, ?_⟩
      · show (true && (backToKw pos (keywordEach ks env)).all (·.1.isSome)) = true
        rw [h1]; exact rfl
      · show (false || (backToKw pos (keywordEach ks env)).any (·.1.isNone)) = false
        rw [h2]; exact rfl
      · show n :: (backToKw pos (keywordEach ks env)).filterMap (·.1) = n :: kwN ks
        rw [h3]
/-! ### what is called -/
/-- the parameters' values, picked -/
def SelR (K : PySem.W.Frag) (us : List Value) : Sum Nat Val → Value → Prop
  | .inl j, z => us[j]? = some z
  | .inr v, z => ∃ y, RelV y z ∧ ∀ S : RS, S.K = K → Rel S v y
structure Shape where
  n : Nat
  ks : List Str
  sel : List (Sum Nat Val)
  deriving Inhabited
def Bnd (K : PySem.W.Frag) (fd : FuncData) (ps : List Str) (sh : Shape) : Prop :=
  ∀ (s : Shared) (us ws : List Value), K.In s.heap → us.length = sh.n → ws.length = sh.ks.length → ∃ zs : List Value, Paired (SelR K (us ++ ws)) sh.sel zs ∧ BindsTo s fd ⟨us, sh.ks.zip ws⟩ (ps.zip zs)
def CXF : CXT := fun _ _ _ _ _ _ => False
def EF : XK := fun _ _ _ => False
/-- a def does what cl says -/
def FnG (P : Program) (w : World) (K : PySem.W.Frag) (mg : Str → Option Value) (base : PySem.Heap) (k : Nat) (f : Addr) (fd : FuncData) (ps : List Str) (cl : List Val → Heap → Res Val) : Prop :=
  ∀ (A : Around) (outer : List Env) (s : Shared) (S : RS) (args : Args) (us : List Value) (xs : List V) (vs : List Val) (Q : VK), Room (2 * k) A → A.guards = some [] → S.K = K → Good S → Env0 P w K mg base A outer s S.H → BindsTo s fd args (ps.zip us) →
    Vals xs us → Rels S vs xs → Post S (cl vs S.h) Q → codeAny (model P w) A (.call (.ref f) args) (CR CXF outer P w S.H s Q EF) s
structure FnS where
  x : Str
  own : Option Str := none
  shapes : List Shape
structure ClsS where
  x : Str
  flds : List Str
/-- where a def is found -/
def FAt (K : PySem.W.Frag) (mg : Str → Option Value) (e : FnS) (f : Addr) : Prop := match e.own with
  | none => mg e.x = some (.ref f) ∧ PySem.W.keepIn K (.ref f) = true
  | some cx => if e.x = ("__init__" : Str) then Mk K (He.ga K cx) f else Meth K (He.ga K cx) e.x f
structure ClsAt (K : PySem.W.Frag) (mg : Str → Option Value) (e : ClsS) : Prop where
  mg : mg e.x = some (.ref (He.ga K e.x))
  cls : Cls K (He.ga K e.x)
  noat : ∀ f ∈ e.flds, NoAttr K (He.ga K e.x) f
/-- what a body knows -/
structure Ck where
  N : List Str
  sc : Scope
  st : List Str
  fns : List FnS
  gls : List (Str × Val)
  bl : List Str
  cls : List ClsS := []
structure CF (X : Cx) (c : Ck) (k : Nat) (cl : CallFn) : Prop where
  hN : X.N = c.N
  nd : c.N.Nodup
  sc : X.env.scope = c.sc
  kind : c.sc.kind = .function
  calm : X.calm = true
  guards : X.A.guards = some []
  room : Room (2 * k + 1) X.A
  st : ∀ x ∈ c.st, L2.Loc X.env.scope x ∧ (X.fn x = true ∨ X.env.scope.names.lookup x = some .local)
  bl : ∀ x ∈ c.bl, X.mg x = none
  gl : ∀ p ∈ c.gls, ∃ u y, X.mg p.1 = some u ∧ RelV y u ∧ ∀ S : RS, S.K = X.K → Rel S p.2 y
  fns : ∀ (i : Nat) (e : FnS), c.fns[i]? = some e → ∃ f fd ps, FAt X.K X.mg e f ∧ (∀ sh ∈ e.shapes, Bnd X.K fd ps sh) ∧ FnG X.prog X.w X.K X.mg X.base k f fd ps (cl i)
  cls : ∀ e ∈ c.cls, ClsAt X.K X.mg e
  sys : SysK X.K
/-! ### names -/
def visB (sc : Scope) (x : Str) : Bool := match sc.names.lookup x with
  | some .local => true
  | some .cell => true
  | some .free => true
  | _ => false
theorem visB_ok {sc : Scope} {x : Str} (h : visB sc x = true) : Vis sc x := by
  unfold visB at h
  split at h <;> first | (rename_i e; first | exact .inl e | exact .inr (.inl e) | exact .inr (.inr e)) | cases h
def glB (sc : Scope) (x : Str) : Bool := match sc.names.lookup x with
  | some .globalImplicit => true
  | _ => false
theorem glB_ok {X : Cx} {c : Ck} {k : Nat} {cl : CallFn} (F : CF X c k cl) {x : Str} (h : glB c.sc x = true) : Gl X x := by
  unfold glB at h
  show X.env.scope.names.lookup x = some .globalImplicit
  rw [F.sc]
  split at h
  · assumption
  · cases h
def nmOk (x : Str) : Bool := !(x == ("__debug__" : Str)) && !(x == ("__classdict__" : Str)) && !(x == ("__name__" : Str))
theorem nmOk_ok {x : Str} (h : nmOk x = true) : (x == ("__debug__" : Str)) = false ∧ (x == ("__classdict__" : Str)) = false ∧ x ≠ ("__name__" : Str) := by
  unfold nmOk at h
  simp only [Bool.and_eq_true, Bool.not_eq_true'] at h
  exact ⟨h.1.1, h.1.2, fun e => by have := h.2; rw [e] at this; exact absurd this (by decide)⟩
def inL (x : Str) (l : List Str) : Bool := l.any fun y => y == x
theorem inL_ok {x : Str} {l : List Str} (h : inL x l = true) : x ∈ l := by
  unfold inL at h
  rw [List.any_eq_true] at h
  obtain ⟨y, h1, h2⟩ := h
  rw [← eq_of_beq h2]; exact h1
section
variable {X : Cx} {c : Ck} {k : Nat} {cl : CallFn}
theorem CF.units2 (F : CF X c k cl) : X.A.units + 67 < cLine := by have := F.room.un; omega
theorem CF.units (F : CF X c k cl) : X.A.units + 65 < cLine := by have := F.room.un; omega
theorem pe_varM (F : CF X c k cl) {i : Nat} {x : Str} {pos : Pos} (hN : c.N[i]? = some x) (hv : visB c.sc x = true) (hn : nmOk x = true) : PE X (.Name x pos) (tM X.K (evE cl (.var i))) := by
  obtain ⟨h1, h2, _⟩ := nmOk_ok hn
  exact pe_vr (by rw [F.hN]; exact hN) (by rw [F.sc]; exact visB_ok hv) h1 h2
theorem pe_glbM (F : CF X c k cl) {v : Val} {x : Str} {pos : Pos} (hm : (x, v) ∈ c.gls) (hg : glB c.sc x = true) (hn : nmOk x = true) : PE X (.Name x pos) (tM X.K (evE cl (.lit v))) := by
  obtain ⟨h1, h2, _⟩ := nmOk_ok hn
  obtain ⟨u, y, hu, r, rs⟩ := F.gl _ hm
  refine PE.wk (pe_glob (glB_ok F hg) hu r h1) fun σ H Q q => ?_
  obtain ⟨S, ls, hK, hH, g, l, p⟩ := q
  subst hH
  exact PostG.here p g (rs S hK)
end
/-! ### dict displays of constants -/
section
variable {X : Cx} {c : Ck} {k : Nat} {cl : CallFn}
def keyC : Const → Option (Key × Val)
  | .int i => some (.inl i, .int i)
  | .str s => if asc s.cps.toList then some (.inr s, .str s.cps.toList) else none
  | _ => none
def litC : Const → Option Val
  | .none => some .none
  | .bool b => some (.bool b)
  | .int i => some (.int i)
  | .str s => if asc s.cps.toList then some (.str s.cps.toList) else none
  | _ => none
theorem pe_litC {ck : Const} {j : Nat} {pos : Pos} {v : Val} (h : litC ck = some v) : ∃ x, PE X (.Constant ck j pos) (tC x) ∧ ∀ S : RS, Rel S v x := by
  cases ck with
  | none => cases h; exact ⟨_, pe_non, fun _ => rfl⟩
  | bool b => cases h; exact ⟨_, pe_bl, fun _ => rfl⟩
  | int i => cases h; exact ⟨_, pe_int, fun _ => rfl⟩
  | str s =>
    unfold litC at h
    simp only at h
    split at h
    · rename_i a; cases h; exact ⟨_, pe_str, fun _ => ⟨rfl, a⟩⟩
    · cases h
  | _ => cases h
theorem pe_keyC {ck : Const} {j : Nat} {pos : Pos} {y : Key} {v : Val} (h : keyC ck = some (y, v)) : PE X (.Constant ck j pos) (tC (kV y)) ∧ ∀ S : RS, Rel S v (kV y) := by
  cases ck with
  | int i => cases h; exact ⟨pe_int, fun _ => rfl⟩
  | str s =>
    unfold keyC at h
    simp only at h
    split at h
    · rename_i a; cases h; exact ⟨pe_str, fun _ => ⟨rfl, a⟩⟩
    · cases h
  | _ => cases h
theorem pe_litM {ck : Const} {j : Nat} {pos : Pos} {v : Val} (h : litC ck = some v) : PE X (.Constant ck j pos) (tM X.K (evE cl (.lit v))) := by
  obtain ⟨x, hx, r⟩ := pe_litC (X := X) (j := j) (pos := pos) h
  refine PE.wk hx fun σ H Q q => ?_
  obtain ⟨S, ls, hK, hH, g, l, p⟩ := q
  subst hH
  exact PostG.here p g (r S)
theorem pe_dict0 {pos : Pos} : PE X (.Dict [] [] pos) (tM X.K (evE cl (.lit (.dict [] [])))) := by
  refine PE.wk pe_dnewK fun σ H Q q => ?_
  obtain ⟨S, ls, hK, hH, g, l, p⟩ := q
  subst hH
  intro a n
  exact p (S.put a (.dK [])) _ rfl (good_put g n) (ext_put n) (rel_dic (kvs := []) g n rfl rfl)
theorem pe_dict1 {pos p1 p2 : Pos} {ck cv : Const} {j1 j2 : Nat} {y : Key} {kv v : Val} (hk : keyC ck = some (y, kv)) (hv : litC cv = some v) :
    PE X (.Dict [some (.Constant ck j1 p1)] [.Constant cv j2 p2] pos) (tM X.K (evE cl (.lit (.dict [kv] [v])))) := by
  obtain ⟨h1, r1⟩ := pe_keyC (X := X) (j := j1) (pos := p1) hk
  obtain ⟨x, h2, r2⟩ := pe_litC (X := X) (j := j2) (pos := p2) hv
  refine PE.wk (pe_disp (pps_cons h1 h2 pps_nil) rfl rfl (by simp) (Nat.le_of_ble_eq_true rfl)) fun σ H Q q => ?_
  obtain ⟨S, ls, hK, hH, g, l, p⟩ := q
  subst hH
  intro a n
  refine ⟨upd_same, [(y, x)], rfl, Nat.le_of_ble_eq_true rfl, ?_⟩
  rw [upd_upd]
  exact p (S.put a (.dK [(y, x)])) _ rfl (good_put g n) (ext_put n) (rel_dic (kvs := [(y, x)]) g n ⟨_, [], rfl, r1 S, rfl⟩ ⟨_, [], rfl, r2 S, rfl⟩)
end
end M
namespace M
open PySem PySem.Spec PyProof.Rows L2
section
variable {X : Cx} {c : Ck} {k : Nat} {cl : CallFn}
/-! ### dict displays of constants, many pairs -/
theorem tPairs_c : ∀ (kvs : List (Key × V)) {σ : L2.St} {H : Hp} {Q : List (V × V) → Hp → Prop}, Q (kvs.map fun kv => (kV kv.1, kv.2)) H → tPairs (kvs.map fun kv => (tC (kV kv.1), tC kv.2)) σ H Q
  | [], _, _, _, h => h
  | kv :: r, σ, H, Q, h => tPairs_c r (σ := σ) (H := H) (Q := fun ps H => Q ((kV kv.1, kv.2) :: ps) H) h
def dictC : List (Option Expr) → List Expr → Option (List Key × List Val × List Val)
  | [], [] => some ([], [], [])
  | some (.Constant k _ _) :: ks, .Constant c _ _ :: cs => (match keyC k, litC c, dictC ks cs with
    | some (y, kv), some w, some (ys, kl, vl) => some (y :: ys, kv :: kl, w :: vl)
    | _, _, _ => none)
  | _, _ => none
theorem pps_const {pos : Pos} : ∀ {ks : List (Option Expr)} {cs : List Expr} {ys : List Key} {kl vl : List Val}, dictC ks cs = some (ys, kl, vl) →
    ∃ kvs : List (Key × V), kvs.map (·.1) = ys ∧ PPs X pos ks cs (kvs.map fun kv => (tC (kV kv.1), tC kv.2)) ∧ (ks.all fun x => x.isSome) = true ∧ ks.length = cs.length ∧ kvs.length = ks.length ∧ ∀ S : RS, Rels S kl (kvs.map fun p => kV p.1) ∧ Rels S vl (kvs.map Prod.snd)
  | [], [], ys, kl, vl, h => by
    cases h
    exact ⟨[], rfl, pps_nil, rfl, rfl, rfl, fun S => ⟨rfl, rfl⟩⟩
  | [], _ :: _, _, _, _, h => by cases h
  | none :: _, _, _, _, _, h => by cases h
  | some e :: _, [], _, _, _, h => by cases e <;> cases h
  | some e :: ks, c :: cs, ys, kl, vl, h => by
    cases e with
    | Constant k j1 p1 =>
      cases c with
      | Constant c j2 p2 =>
        have h : (match keyC k, litC c, dictC ks cs with
          | some (y, kv), some w, some (ys, kl, vl) => some (y :: ys, kv :: kl, w :: vl)
          | _, _, _ => none) = some (ys, kl, vl) := h
        cases e1 : keyC k with
        | none => rw [e1] at h; cases h
        | some q =>
          cases e2 : litC c with
          | none => rw [e1, e2] at h; cases h
          | some w =>
            cases e3 : dictC ks cs with
            | none => rw [e1, e2, e3] at h; cases h
            | some q3 =>
              obtain ⟨y, kv⟩ := q
              obtain ⟨ys3, kl3, vl3⟩ := q3
              rw [e1, e2, e3] at h
              cases h
              obtain ⟨kvs, a1, a2, a3, a4, a5, a6⟩ := pps_const (pos := pos) e3
              obtain ⟨x, hx, rx⟩ := pe_litC (X := X) (j := j2) (pos := p2) e2
              obtain ⟨hk, rk⟩ := pe_keyC (X := X) (j := j1) (pos := p1) e1
              refine ⟨(y, x) :: kvs, congrArg (y :: ·) a1, pps_cons hk hx a2, ?_, congrArg Nat.succ a4, congrArg Nat.succ a5, fun S => ⟨⟨_, _, rfl, rk S, (a6 S).1⟩, ⟨_, _, rfl, rx S, (a6 S).2⟩⟩⟩
              rw [List.all_cons, a3]
              rfl
      | _ => cases h
    | _ => cases h
theorem val_not {k : Key} : ∀ {acc : List (Key × V)}, k ∉ acc.map (·.1) → valV acc k = none
  | [], _ => rfl
  | (a, y) :: r, h => by
    unfold valV
    have z : ¬ a = k := fun z => h (by rw [← z]; exact List.mem_cons_self)
    rw [List.find?_cons, decide_eq_false z]
    exact val_not fun m => h (List.mem_cons_of_mem _ m)
theorem merge_nodup : ∀ (kvs acc : List (Key × V)), ((acc ++ kvs).map (·.1)).Nodup → mergeK acc kvs = acc ++ kvs
  | [], acc, _ => by rw [List.append_nil]; rfl
  | (k, v) :: r, acc, h => by
    show mergeK (putK acc k v) r = _
    have hk : k ∉ acc.map (·.1) := fun m => by
      rw [List.map_append, List.nodup_append] at h
      exact h.2.2 k m k List.mem_cons_self rfl
    rw [putK_new v (val_not hk), merge_nodup r (acc ++ [(k, v)]) (by rw [List.append_assoc]; exact h), List.append_assoc]
    rfl
theorem pe_dictC {pos : Pos} {ks : List (Option Expr)} {cs : List Expr} {ys : List Key} {kl vl : List Val} (h : dictC ks cs = some (ys, kl, vl)) (hn : ys.Nodup) (hl : ks.length ≤ 15) (h0 : ks ≠ []) : PE X (.Dict ks cs pos) (tM X.K (evE cl (.lit (.dict kl vl)))) := by
  obtain ⟨kvs, a1, a2, a3, a4, a5, a6⟩ := pps_const (X := X) (pos := pos) h
  refine PE.wk (pe_disp a2 a3 a4 h0 hl) fun σ H Q q => ?_
  obtain ⟨S, ls, hK, hH, g, l, p⟩ := q
  subst hH
  intro a n
  refine tPairs_c kvs ⟨upd_same, kvs, rfl, by omega, ?_⟩
  rw [merge_nodup kvs [] (by rw [List.nil_append, a1]; exact hn), List.nil_append, upd_upd]
  obtain ⟨r1, r2⟩ := a6 S
  exact p (S.put a (.dK kvs)) _ rfl (good_put g n) (ext_put n) (rel_dic g n r1 r2)
theorem pk_nilM : PK X [] (tAs X.K (evEs cl [])) := by
  refine ⟨fun pos pins s σ H Q I q => ?_⟩
  refine pk_nil.run pos pins s σ H Q I ?_
  obtain ⟨S, ls, hK, hH, g, l, p⟩ := q
  subst hH
  exact PostG.here p g (show Rels S [] [] from rfl)
theorem tCons_M {f : Loc → Heap → Res Val} {fs : Loc → Heap → Res (List Val)} {σ : L2.St} {H : Hp} {Q : List V → Hp → Prop}
    (q : tAs X.K (fun ls h => (f ls h).bind fun v h => (fs ls h).bind fun vs h => .ok (v :: vs) h) σ H Q) : tCons (tM X.K f) (tAs X.K fs) σ H Q := by
  refine tG.seq (g := fun ls v h => (fs ls h).bind fun vs h => .ok (v :: vs) h) q fun v x S1 ls hK g1 l1 r1 p1 => ?_
  exact tG.mk hK g1 l1 (PostG.bind p1 fun vs xs S2 _ g2 e2 r2 p2 => PostG.here p2 g2 ⟨x, xs, rfl, r1.ext e2, r2⟩)
theorem pk_consM {m : ME} {ms : List ME} {e : Expr} {nm : Option Str} {kpos : Pos} {kws : List Keyword} (ha : PE X e (tM X.K (evE cl m))) (hr : PK X kws (tAs X.K (evEs cl ms))) : PK X (⟨nm, e, kpos⟩ :: kws) (tAs X.K (evEs cl (m :: ms))) :=
  ⟨fun pos pins s σ H Q I q => (pk_cons ha hr).run pos pins s σ H Q I (tCons_M q)⟩
theorem sel_rel {S : RS} : ∀ {sel : List (Sum Nat Val)} {us zs : List Value} {xs : List V} {vs zv : List Val}, Paired (SelR S.K us) sel zs → selV sel vs = some zv → Vals xs us → Rels S vs xs → ∃ ys, Vals ys zs ∧ Rels S zv ys
  | _, us, _, xs, vs, zv, .nil, e, r, q => by cases e; exact ⟨[], .nil, rfl⟩
  | _, us, _, xs, vs, zv, .cons (a := a) (b := b) h t, e, r, q => by
    cases a with
    | inl j =>
      unfold selV at e
      cases e1 : vs[j]? with
      | none => rw [e1] at e; cases e
      | some v =>
        rename_i sel zs
        cases e2 : selV sel vs with
        | none => rw [e1, e2] at e; cases e
        | some l =>
          rw [e1, e2] at e
          cases e
          obtain ⟨ys, h1, h2⟩ := sel_rel t e2 r q
          obtain ⟨x, hx, rx⟩ := q.get e1
          obtain ⟨u, hu, ru⟩ := r.get hx
          have hb : us[j]? = some b := h
          rw [hu] at hb
          cases hb
          exact ⟨x :: ys, .cons ru h1, ⟨x, ys, rfl, rx, h2⟩⟩
    | inr v =>
      unfold selV at e
      rename_i sel zs
      cases e2 : selV sel vs with
      | none => rw [e2] at e; cases e
      | some l =>
        rw [e2] at e
        cases e
        obtain ⟨ys, h1, h2⟩ := sel_rel t e2 r q
        obtain ⟨y, ry, rs⟩ := h
        exact ⟨y :: ys, .cons ry h1, ⟨y, ys, rfl, rs S rfl, h2⟩⟩
theorem room_less {k : Nat} {A : Around} (h : Room (k + 1) A) : Room k A := ⟨h.hd, by have := h.dp; omega, by have := h.un; omega⟩
/-- the callee runs -/
theorem run_M (F : CF X c k cl) {i : Nat} {f : Addr} {fd : FuncData} {ps : List Str} {sh : Shape} {pins : List (Addr × PySem.Obj)} {σ : L2.St} {s : Shared} {S : RS} {Q : VK} {us ws : List Value} {xs ys : List V} {vs wv : List Val}
    (hb : Bnd X.K fd ps sh) (G : FnG X.prog X.w X.K X.mg X.base k f fd ps (cl i)) (I : Inv X pins σ S.H s) (hK : S.K = X.K) (g : Good S) (r : Vals xs us) (q : Rels S vs xs) (r2 : Vals ys ws) (q2 : Rels S wv ys)
    (l1 : us.length = sh.n) (l2 : ws.length = sh.ks.length) (p : Post S (match selV sh.sel (vs ++ wv) with
      | some us => cl i us S.h
      | none => .stuck) Q) : wpAny (model X.prog X.w) X.A (call (.ref f) us (sh.ks.zip ws)) (EP X pins σ Q) X.xe s := by
  obtain ⟨zs, hz, hB⟩ := hb s us ws I.kIn l1 l2
  cases e : selV sh.sel (vs ++ wv) with
  | none => rw [e] at p; exact p.elim
  | some zv =>
    rw [e] at p
    obtain ⟨zx, h1, h2⟩ := sel_rel (S := S) (by rw [hK]; exact hz) e (r.append r2) (q.app q2)
    refine wpAny_call (codeAny_mono (G X.A X.stack s S ⟨us, sh.ks.zip ws⟩ zs zx zv Q (room_less F.room) F.guards hK g I.env0 hB h1 h2 p) fun r s' hq => ?_)
    cases r with
    | error e => exact False.elim hq
    | ok fl =>
      cases fl with
      | ret u => exact I.after hq
      | next => exact False.elim hq
      | brk => exact False.elim hq
      | cont => exact False.elim hq
theorem pe_callM (F : CF X c k cl) {i : Nat} {fe : FnS} {sh : Shape} {args : List Expr} {kws : List Keyword} {p pos : Pos} {es kes : List ME} (hi : c.fns[i]? = some fe) (ho : fe.own = none) (hs : sh ∈ fe.shapes) (hg : glB c.sc fe.x = true) (hn : nmOk fe.x = true)
    (hp : plainsE args = true) (hk : kwsE kws = true) (hks : kwN kws = sh.ks) (hl : args.length = sh.n) (hle : es.length = args.length) (hlk : kes.length = sh.ks.length) (ha : PA X args (tAs X.K (evEs cl es))) (hkw : PK X kws (tAs X.K (evEs cl kes))) :
    PE X (.Call (.Name fe.x p) args kws pos) (tM X.K (evE cl (.call i es kes sh.sel))) := by
  obtain ⟨h1, _, _⟩ := nmOk_ok hn
  obtain ⟨f, fd, ps, hf, hB, G⟩ := F.fns i fe hi
  unfold FAt at hf
  rw [ho] at hf
  obtain ⟨hm, kp⟩ := hf
  obtain ⟨k1, k2, k3⟩ := kw_facts (pos := pos) (env := X.env) hk
  have lenE : ∀ (es : List ME) (ls : Loc) (h h' : Heap) (vs : List Val), evEs cl es ls h = .ok vs h' → vs.length = es.length := by
    intro es
    induction es with
    | nil => intro ls h h' vs e; cases e; rfl
    | cons m r ih =>
      intro ls h h' vs e
      unfold evEs at e
      cases e1 : evE cl m ls h with
      | ok v h1 =>
        rw [e1] at e
        simp only [bind_ok] at e
        cases e2 : evEs cl r ls h1 with
        | ok ws h2 => rw [e2] at e; cases e; rw [List.length_cons, ih _ _ _ _ e2, List.length_cons]
        | exc _ _ => rw [e2] at e; cases e
        | stuck => rw [e2] at e; cases e
      | exc _ _ => rw [e1] at e; cases e
      | stuck => rw [e1] at e; cases e
  refine ⟨fun pins s σ H Q I q => ?_⟩
  refine wpAny_Call_Name_kw (ld_glob I (glB_ok F hg) hm ?_ h1)
  have fin : ∀ {s1 : Shared} {us : List Value} {vs : List V} {H1 : Hp}, Inv X pins σ H1 s1 → Vals vs us → vs.length = sh.n → tAs X.K (evEs cl kes) σ H1 (fun zs H2 => zs.length = sh.ks.length ∧ ∀ us ws s2, Inv X pins σ H2 s2 → Vals vs us → Vals zs ws → wpAny (model X.prog X.w) X.A (call (.ref f) us (sh.ks.zip ws)) (EP X pins σ Q) X.xe s2) →
      wpAny (model X.prog X.w) X.A (evalAll ((backToKw pos (keywordEach kws X.env)).map (·.2))) (fun ks s2 => X.K.In s2.heap ∧ wpAny (model X.prog X.w) X.A (call (.ref f) ([] ++ us) (((backToKw pos (keywordEach kws X.env)).filterMap (·.1)).zip ks)) (EP X pins σ Q) X.xe s2) X.xe s1 := by
    intro s1 us vs H1 I1 r l q1
    refine thn (hkw.run pos pins s1 σ H1 _ I1 q1) fun ws s2 ⟨zs, H2, I2, rz, lz, q2⟩ => ⟨I2.kIn, ?_⟩
    rw [k3, hks]
    exact q2 us ws s2 I2 r rz
  have q' : tAs X.K (evEs cl es) σ H fun vs H1 => vs.length = sh.n ∧ tAs X.K (evEs cl kes) σ H1 (fun zs H2 => zs.length = sh.ks.length ∧ ∀ us ws s2, Inv X pins σ H2 s2 → Vals vs us → Vals zs ws → wpAny (model X.prog X.w) X.A (call (.ref f) us (sh.ks.zip ws)) (EP X pins σ Q) X.xe s2) := by
    obtain ⟨S0, ls, hK0, hH0, g0, l0, p0⟩ := q
    subst hH0
    refine ⟨S0, ls, hK0, rfl, g0, l0, ?_⟩
    refine PostG.bind (g := fun vs h => (evEs cl kes ls h).bind fun ws h => match selV sh.sel (vs ++ ws) with
      | some us => cl i us h
      | none => .stuck) p0 fun vs xs S1 e1 g1 x1 r1 p1 => ?_
    have hK1 : S1.K = X.K := x1.K.trans hK0
    refine ⟨by rw [← r1.len, lenE _ _ _ _ _ e1, hle, hl], ?_⟩
    refine ⟨S1, ls, hK1, rfl, g1, l0.ext x1, ?_⟩
    refine PostG.bind p1 fun wv ys S2 e2 g2 x2 r2 p2 => ?_
    refine ⟨by rw [← r2.len, lenE _ _ _ _ _ e2, hlk], fun us ws s2 I2 ru rw_ => ?_⟩
    refine run_M F (hB sh hs) G I2 (x2.K.trans hK1) g2 ru (r1.ext x2) rw_ r2 ?_ ?_ p2
    · rw [← ru.length, ← r1.len, lenE _ _ _ _ _ e1, hle, hl]
    · rw [← rw_.length, ← r2.len, lenE _ _ _ _ _ e2, hlk]
  cases args with
  | nil =>
    refine PySem.W.callWith_KW0 (h₀ := X.base) I.ok.mod.kin kp k1 ?_ (by show (false || _) = false; rw [k2]; exact rfl)
    have pa0 := ha.run pos pins s σ H _ I q'
    cases es with
    | nil =>
      obtain ⟨S0, ls, hK0, hH0, g0, l0, p0⟩ := q'
      subst hH0
      obtain ⟨l1, q1⟩ := PostG.here p0 g0 (show Rels S0 [] [] from rfl)
      exact fin (us := []) I .nil l1 q1
    | cons _ _ => cases hle
  | cons e args =>
    have hp' := Bool.and_eq_true_iff.mp (show (plainE e && plainsE args) = true from hp)
    refine PySem.W.callWith_KW (h₀ := X.base) I.ok.mod.kin kp k1 (thn (ha.run pos pins s σ H _ I q') fun us s1 ⟨vs, H1, I1, r, l1, q1⟩ => fin I1 r l1 q1) ?_ (star_plain hp'.1)
    rw [backs_plain hp, k2]; exact rfl
end
end M
namespace M
open PySem PySem.Spec PyProof.Rows L2
theorem wp_either {α : Type} {M : Model} {A : Around} {E : Value → Shared → Prop} {s : Shared} {c : Prop} [Decidable c] {a b : Sem α} {Q : α → Shared → Prop} (ha : wpAny M A a Q E s) (hb : wpAny M A b Q E s) : wpAny M A (if c then a else b) Q E s := by
  by_cases h : c
  · rw [if_pos h]; exact ha
  · rw [if_neg h]; exact hb
theorem meets_enumT (l : Addr) (items : Array Value) : Meets (Builtin.«enumerate.__new__» { pos := [.type "enumerate", .ref l] }) fun A R s => IsTup s.heap l items ∧
    R (.ok (.ret (.ref (s.heap.push { cls := .type "tuple_iterator", data := .fields #[.ref l, .int 0 0] }).objs.size)))
      { s with heap := (s.heap.push { cls := .type "tuple_iterator", data := .fields #[.ref l, .int 0 0] }).push { cls := .type "enumerate", data := .fields #[.none, .bool false, .ref s.heap.objs.size, rawInt 0, .none, .none] } } := by
  refine Meets.of_wp fun prog w A R s ⟨h1, h2⟩ => ?_
  unfold Builtin.«enumerate.__new__»
  refine wpAny_bind ?_
  unfold Builtin.SmallTypes.newClass
  simp only
  refine wpAny_bind (wpAny_of_eq (a := true) rfl ?_)
  refine wpAny_ite_false (by decide) (wpAny_bind (wpAny_of_eq (a := true) sub_enumerate (wpAny_ite_false (by decide) (wpAny_pure ?_))))
  simp only
  refine wpAny_ite_true (by decide) (wpAny_bind ?_)
  unfold Builtin.SmallTypes.calledThroughType
  refine wpAny_bind (wpAny_stack_any fun st => wpAny_pure ?_)
  have tail : wpAny (model prog w) A.in1 (do
      let it ← pyIter (.ref l)
      let o ← Builtin.SmallTypes.newRecord (.type "enumerate") (Builtin.SmallTypes.ownedTupleFields ++ [it, rawInt 0, .none, .none])
      ret o) (fun fin s' => ∃ v, fin = Fin.done (PySem.Flow.ret v) ∧ R (Except.ok (PySem.Flow.ret v)) s') (fun e s' => R (Except.error e) s') s := by
    refine wpAny_bind (wpAny_pyIter_tuple (items := items) h1 ?_)
    refine wpAny_bind ?_
    unfold Builtin.SmallTypes.newRecord
    simp only
    refine wpAny_newObj_type (wpAny_pure ⟨_, rfl, h2⟩) (by show (6 : Nat) ≤ _; exact Nat.le_of_ble_eq_true rfl)
  refine wp_either ?_ ?_
  · refine wpAny_bind (wpAny_of_eq (a := (Value.ref l, (none : Option Value))) (by with_unfolding_all rfl) ?_)
    exact tail
  · refine wpAny_bind (wpAny_of_eq (a := (Value.ref l, (none : Option Value))) (by with_unfolding_all rfl) ?_)
    exact tail
theorem call_enumT {prog : Program} {w : World} {A : Around} {E : Value → Shared → Prop} {s : Shared} {l : Addr} {items : Array Value} {Q : Value → Shared → Prop} (h : IsTup s.heap l items)
    (k : ∀ h' : PySem.Heap, IsEnum h' (s.heap.objs.size + 1) s.heap.objs.size 0 .none → h'.IsTupleIter s.heap.objs.size l 0 → h'.objs.size = s.heap.objs.size + 2 → (∀ b o, s.heap.get? b = some o → h'.get? b = some o) → Q (.ref (s.heap.objs.size + 1)) { s with heap := h' }) :
    wpAny (model prog w) A (call (.type "enumerate") [.ref l]) Q E s := by
  refine callType_new F.called_enumerate (by decide) (F.typeCall_enumerate_1 _) (F.newCall_enumerate_1 _) (fun obj => F.args_object_init_2 _ _) F.entry_enumerate_new (meets_enumT l items) ⟨h, ?_⟩
  have sz : (s.heap.push { cls := .type "tuple_iterator", data := .fields #[.ref l, .int 0 0] }).objs.size = s.heap.objs.size + 1 := Heap.size_push ..
  rw [sz]
  refine ⟨⟨_, by rw [← sz]; exact Heap.get?_push_size _ rfl, rfl⟩, k _ ?_ ?_ ?_ ?_⟩
  · show _ = _
    rw [← sz]
    exact Heap.get?_push_size _ rfl
  · exact ⟨_, Heap.get?_push_of_some _ (Heap.get?_push_size _ rfl), rfl, rfl⟩
  · rw [Heap.size_push, sz]
  · exact fun b o e => Heap.get?_push_of_some _ (Heap.get?_push_of_some _ e)
theorem drawsT {prog : Program} {w : World} {A : Around} (hA : A.handled = none) (it t : Addr) (ne : t ≠ it) (items : Array Value) : Draws prog w A it [it, t] items.size (fun i v => items[i]? = some v) fun i h => h.IsTupleIter it t i ∧ h.IsTuple t items := by
  refine ⟨fun i h ⟨⟨o, h1, _⟩, _⟩ => ⟨o, h1⟩, fun i h h' ⟨⟨o, h1, h2⟩, ⟨o2, h3, h4⟩⟩ k => ⟨⟨o, k _ (by simp) o h1, h2⟩, ⟨o2, k _ (by simp) o2 h3, h4⟩⟩, fun i s Q E hi ⟨h1, h2⟩ k => ?_, fun s Q E ⟨h1, h2⟩ k => ?_⟩
  · refine RZ.nextOf_tuple_item h1 h2 (Array.getElem?_eq_getElem hi) fun h' it' sb => ?_
    refine k _ h' s.toks (Array.getElem?_eq_getElem hi) ⟨it', ?_⟩ sb
    obtain ⟨o2, h3, h4⟩ := h2
    exact ⟨o2, by rw [sb.2 t ne]; exact h3, h4⟩
  · exact RZ.nextOf_tuple_end hA h1 h2 (Array.getElem?_eq_none (Nat.le_refl _)) fun h' e eb hs => k h' e eb hs
theorem drawsEnd {prog : Program} {w : World} {A : Around} (hA : A.handled = none) (it t : Addr) (items : Array Value) (n : Nat) (hn : items.size ≤ n) : Draws prog w A it [it, t] n (fun _ _ => False) fun i h => i = n ∧ h.IsTupleIter it t i ∧ h.IsTuple t items := by
  refine ⟨fun i h ⟨_, ⟨o, h1, _⟩, _⟩ => ⟨o, h1⟩, fun i h h' ⟨e, ⟨o, h1, h2⟩, ⟨o2, h3, h4⟩⟩ k => ⟨e, ⟨o, k _ (by simp) o h1, h2⟩, ⟨o2, k _ (by simp) o2 h3, h4⟩⟩, fun i s Q E hi ⟨e, _⟩ k => absurd e (Nat.ne_of_lt hi), fun s Q E ⟨_, h1, h2⟩ k => ?_⟩
  exact RZ.nextOf_tuple_end hA h1 h2 (Array.getElem?_eq_none hn) fun h' e eb hs => k h' e eb hs
def IteT (K : PySem.W.Frag) (a : Addr) : It where
  go := fun i H => ∃ xs x, SqT K H a xs ∧ xs[i]? = some x
  yld := fun i H v H' => ∃ T x, v = V.ref T ∧ H T = none ∧ H' = upd H T (.tup [V.int i, x]) ∧ ∀ xs, SqT K H a xs → xs[i]? = some x
  stop := fun i H => ∃ xs, SqT K H a xs ∧ xs.length ≤ i
theorem turn_enumT {P : Program} {w : World} {K : PySem.W.Frag} {elts : List Expr} {kk : Nat} {tpos : Pos} (a e it : Addr) : Turn P w K (.Tuple elts kk tpos) (IteT K a) [e, it] e fun i h => (∃ old, IsEnum h e it (i : Int) old) ∧ h.IsTupleIter it a i ∧ e ≠ it := by
  refine ⟨by simp, fun i h ⟨⟨old, h1⟩, ⟨o, h2, _, h3⟩, _⟩ b hb => ?_, fun i h h' ⟨⟨old, h1⟩, ⟨o, h2, h3⟩, ne⟩ k => ⟨⟨old, k e (by simp) _ h1⟩, ⟨o, k it (by simp) o h2, h3⟩, ne⟩, ?_, ?_, fun A i s Q E ⟨⟨old, h1⟩, _⟩ q => wpAny_pyIter_enum h1 q⟩
  · rcases List.mem_cons.mp hb with rfl | hb
    · exact ⟨_, h1, fun v z => by cases z⟩
    · rw [List.mem_singleton.mp hb]
      exact ⟨o, h2, fun v z => by rw [h3] at z; cases z⟩
  · intro X e1 e2 e3 hc i pins s σ H E I f ⟨⟨old, h1⟩, h2, ne⟩ ⟨xs, x, hq, hx⟩
    subst e1 e2 e3
    obtain ⟨its, rv, ht, _⟩ := I.tuple hq
    have ht : IsTup s.heap a its.toArray := ht
    obtain ⟨u, hu, ru⟩ := rv.get hx
    have hlt : i < its.toArray.size := by rw [List.size_toArray]; exact (List.getElem?_eq_some_iff.mp hu).1
    obtain ⟨oi, hi1, hi2, _⟩ := id h2
    obtain ⟨ot, ht1, ht2, _⟩ := id ht
    have nit : a ≠ it := fun z => by
      subst z
      rw [hi1] at ht1
      cases ht1
      rw [hi2] at ht2
      exact absurd ht2 (by decide)
    have nea : e ≠ a := fun z => by
      subst z
      rw [h1] at ht1
      cases ht1
      have q : Value.type "enumerate" = Value.type "tuple" := ht2
      exact absurd q (by decide)
    have hA : X.A.in1.handled = none := I.ok.hd hc
    refine wpAny_pyNext_enum_itemD (drawsT hA it a nit its.toArray) h1 ⟨h2, ht⟩ hlt ne (by simp [ne, nea]) fun v h' tk hv out st tup sz keep => ⟨_, rfl, ?_⟩
    have ev : u = v := by
      rw [List.getElem?_toArray, hu] at hv
      exact Option.some.inj hv
    subst ev
    have le : e < s.heap.objs.size := Heap.lt_size h1
    have li : it < s.heap.objs.size := Heap.lt_size hi1
    refine wpAny_letOwnedTupleGo_enum out fun h2' en sb => ?_
    have tup2 : h2'.get? s.heap.objs.size = some { cls := .type "tuple", data := .seq #[.int (i : Int) tk, u] } := by
      rw [sb.2 _ (Nat.ne_of_gt le)]; exact tup
    refine ⟨.ref s.heap.objs.size, upd H s.heap.objs.size (.tup [.int i, x]), ?_, rfl, ⟨_, x, rfl, I.hok.fresh (Nat.le_refl _), rfl, fun ys hy => by rw [I.tuple_inj hy hq]; exact hx⟩, ⟨⟨_, en⟩, ?_, ne⟩, fun b hb => ?_⟩
    · refine I.turnedNew (ch := [e, it]) (t' := tk + 1) (fun b o nb eb => ?_) f (Nat.le_refl _) ⟨by show 2 ≤ sizeLine; decide, _, .cons ⟨tk, rfl⟩ (.cons ru .nil), _, tup2, rfl, _, rfl⟩
      have nb1 : b ≠ e := fun z => nb (by rw [z]; simp)
      have nb2 : b ≠ it := fun z => nb (by rw [z]; simp)
      rw [sb.2 b nb1]
      exact keep b o nb1 nb2 eb
    · obtain ⟨o, q1, q2⟩ := st.1
      exact ⟨o, by rw [sb.2 it (Ne.symm ne)]; exact q1, q2⟩
    · have hb2 := (f b hb).1
      have lb : b < s.heap.objs.size := by
        rcases List.mem_cons.mp hb with rfl | hb
        · exact le
        · rw [List.mem_singleton.mp hb]; exact li
      rw [upd_ne (Nat.ne_of_lt lb)]
      exact hb2
  · intro X e1 e2 e3 hc i pins s σ H E I f ⟨⟨old, h1⟩, h2, ne⟩ ⟨xs, hq, hx⟩
    subst e1 e2 e3
    obtain ⟨its, rv, ht, _⟩ := I.tuple hq
    have ht : IsTup s.heap a its.toArray := ht
    have hA : X.A.in1.handled = none := I.ok.hd hc
    refine wpAny_pyNext_enum_endD (drawsEnd hA it a its.toArray i (by rw [List.size_toArray, ← rv.length]; exact hx)) h1 ⟨rfl, h2, ht⟩ fun h' eb => ⟨rfl, ?_⟩
    exact I.turnedL (ch := [e, it]) (t' := s.toks) (fun b o nb e => eb b o (fun z => nb (by rw [z]; simp)) e) f
def iEnumT (K : PySem.W.Frag) (ta : TA) : TI := fun σ H R => ta σ H fun vs H1 => ∃ a xs, vs = [V.ref a] ∧ ((SqL K H1 a xs ∧ R (Ite K a) H1) ∨ (SqT K H1 a xs ∧ R (IteT K a) H1))
theorem pi_enumA {X : Cx} {elts : List Expr} {kk : Nat} {tpos : Pos} {e : Expr} {t : TA} {p pos : Pos} (hg : Gl X "enumerate") (hm : X.mg "enumerate" = none) (ha : PA X [e] t) (hs : starEach [e] X.env = (false, eval e X.env) :: starEach [] X.env) :
    PI X (.Tuple elts kk tpos) (.Call (.Name "enumerate" p) [e] [] pos) (iEnumT X.K t) := by
  refine ⟨fun pins s σ H R I q => ?_⟩
  refine Call_ (ld_blt I hg hm boot_enumerate ?_ (by decide) (by decide))
  refine PyProof.Rows.callWith_type1 (thn (ha.run pos pins s σ H _ I q) fun us s1 ⟨vs, H1, I1, r, a, xs, ev, qq⟩ => ?_) hs rfl
  subst ev
  cases r with
  | cons r1 r2 =>
    cases r2
    cases r1
    have fp : ∀ b ∈ [s1.heap.objs.size + 1, s1.heap.objs.size], s1.heap.objs.size ≤ b := fun b hb => by
      rcases List.mem_cons.mp hb with rfl | hb
      · exact Nat.le_succ _
      · rw [List.mem_singleton.mp hb]; exact Nat.le_refl _
    rcases qq with ⟨hq, k⟩ | ⟨hq, k⟩
    · obtain ⟨its, rv, pl, _⟩ := I1.list hq
      refine call_enumerate_list pl.isList fun h' en itr sz keep => ?_
      have I2 : Inv X pins σ H1 { s1 with heap := h' } := I1.kept (t' := s1.toks) keep
      refine wpAny_pyIter_enum en ⟨_, [s1.heap.objs.size + 1, s1.heap.objs.size], _, _, H1, rfl, I2, turn_enum a _ _, ⟨⟨_, en⟩, itr, Nat.succ_ne_self _⟩, fun b hb => I1.fpOk (fp b hb) (I1.hok.fresh (fp b hb)), k⟩
    · obtain ⟨its, rv, ht, _⟩ := I1.tuple hq
      refine call_enumT (show IsTup s1.heap a its.toArray from ht) fun h' en itr sz keep => ?_
      have I2 : Inv X pins σ H1 { s1 with heap := h' } := I1.kept (t' := s1.toks) keep
      refine wpAny_pyIter_enum en ⟨_, [s1.heap.objs.size + 1, s1.heap.objs.size], _, _, H1, rfl, I2, turn_enumT a _ _, ⟨⟨_, en⟩, itr, Nat.succ_ne_self _⟩, fun b hb => I1.fpOk (fp b hb) (I1.hok.fresh (fp b hb)), k⟩
end M
namespace M
open PySem PySem.Spec PyProof.Rows L2
/-! ### a set of texts -/
def addS (seen : List Str) (x : Str) : List Str := if x ∈ seen then seen else x :: seen
theorem addS_mem (seen : List Str) (g k : Str) : (decide (k ∈ seen) || decide (k = g)) = decide (k ∈ addS seen g) := by
  unfold addS
  by_cases z : g ∈ seen
  · rw [if_pos z]
    by_cases y : k = g
    · subst y
      simp [z]
    · simp [y]
  · rw [if_neg z]
    by_cases y : k = g
    · simp [y]
    · simp [y]
theorem addS_len (seen : List Str) (g : Str) : (if decide (g ∈ seen) = true then seen.length else seen.length + 1) = (addS seen g).length := by
  unfold addS
  by_cases z : g ∈ seen
  · rw [if_pos z, if_pos (by simpa using z)]
  · rw [if_neg z, if_neg (by simpa using z)]
    rfl
theorem loopT {prog : Program} {w : World} {A : Around} {R : Result → Shared → Prop} {I : Addr} {fp wr : List Addr} {Gg : Array GenState → Array GenState → Prop} {n : Nat} {P : Nat → Value → Prop} {St : Nat → Shared → Prop}
    (W : WalksS prog w A.in1 I fp wr Gg n P St) (S : Addr) (hS : S ∉ fp) (xs : List Str) (hn : xs.length = n) (hb : n + 1 < scanBound) (hP : ∀ i v, P i v → ∃ t, v = .str (xs.getD i Str.empty) t) :
    ∀ (k i : Nat) (s : Shared) (seen : List Str), n - i = k → i ≤ n → St i s → Heap.SetOf (strKind prog w) s.heap S (fun k' => decide (k' ∈ seen)) seen.length → seen.length ≤ i →
      (∀ s', Moved (S :: wr) Gg s s' → Heap.SetOf (strKind prog w) s'.heap S (fun k' => decide (k' ∈ (xs.drop i).foldl addS seen)) ((xs.drop i).foldl addS seen).length → R (.ok (.ret .none)) s') →
      codeAny (model prog w) A (.builtin "set.update.loop" { pos := [.ref S, .ref I] }) R s := by
  have nw : S ∉ wr := fun z => hS (W.sub S z)
  intro k
  induction k with
  | zero =>
    intro i s seen hk hi st so hl q
    have ei : i = n := by omega
    subst ei
    refine codeAny_builtin F.entry_set_update_loop ?_
    rw [Around.under_plainId F.plain_set_update_loop]
    unfold Builtin.«set.update.loop»
    simp only
    refine wpAny_bind (W.done s _ _ st fun s' mv => ?_)
    refine wpAny_pure (q s' (mv.mono fun b hb => List.mem_cons_of_mem _ hb) ?_)
    rw [List.drop_eq_nil_of_le (by omega)]
    obtain ⟨o, es, ep, t, h1, h2⟩ := so
    exact ⟨o, es, ep, t, mv.heap S o nw h1, h2⟩
  | succ k ih =>
    intro i s seen hk hi st so hl q
    have hlt : i < n := by omega
    refine codeAny_builtin F.entry_set_update_loop ?_
    rw [Around.under_plainId F.plain_set_update_loop]
    unfold Builtin.«set.update.loop»
    simp only
    refine wpAny_bind (W.item i s _ _ hlt st fun v s' pv st' mv => ?_)
    simp only
    obtain ⟨t, rfl⟩ := hP i v pv
    have so' : Heap.SetOf (strKind prog w) s'.heap S (fun k' => decide (k' ∈ seen)) seen.length := by
      obtain ⟨o, es, ep, t, h1, h2⟩ := so
      exact ⟨o, es, ep, t, mv.heap S o nw h1, h2⟩
    refine wpAny_bind (wpAny_holding ?_)
    unfold setAdd
    refine wpAny_holding (wpAny_bind ((strKind prog w).pyHash (strKind_is prog w _ t) ?_))
    refine wpAny_setAddHashed_of (strKind_is prog w (xs.getD i Str.empty) t) rfl so' (by omega) fun h' sb so2 => ?_
    refine wpAny_pure ⟨plainId_quiet F.plain_set_update_loop _, ?_⟩
    have ed : xs.drop i = xs.getD i Str.empty :: xs.drop (i + 1) := by
      rw [List.drop_eq_getElem_cons (by omega)]
      congr 1
      simp [List.getD, List.getElem?_eq_getElem (show i < xs.length by omega)]
    have so3 : Heap.SetOf (strKind prog w) h' S (fun k' => decide (k' ∈ addS seen (xs.getD i Str.empty))) (addS seen (xs.getD i Str.empty)).length := by
      exact SetOf_congr so2 (fun k => addS_mem ..) (addS_len ..)
    have mv2 : Moved (S :: wr) Gg s { s' with heap := h', toks := s'.toks + 1 } := by
      refine (mv.mono fun b hb => List.mem_cons_of_mem _ hb).then_heap (Nat.le_succ _) fun b o nb eb => ?_
      rw [sb.2 b fun z => nb (by rw [z]; exact List.mem_cons_self)]
      exact eb
    refine ih (i + 1) { s' with heap := h', toks := s'.toks + 1 } (addS seen (xs.getD i Str.empty)) (by omega) (by omega) ?_ so3 ?_ fun s2 mv3 so4 => ?_
    · refine W.frame (i + 1) s' h' _ st' (Nat.le_succ _) fun b hb o eb => ?_
      rw [sb.2 b fun z => hS (by rw [← z]; exact hb)]
      exact eb
    · unfold addS
      split
      · omega
      · rw [List.length_cons]; omega
    · refine q s2 (Moved.trans W.gtrans mv2 mv3) ?_
      rw [ed, List.foldl_cons]
      exact so4
/-- set(..) of a list of texts -/
theorem call_setT {prog : Program} {w : World} {A : Around} {E : Value → Shared → Prop} {s : Shared} {l : Addr} {items : Array Value} {xs : List Str} {Q : Value → Shared → Prop} (hA : A.handled = none) (hl : s.heap.IsList l items) (hs : StrsAre items.toList xs) (hb : xs.length + 1 < scanBound)
    (k : ∀ (h' : PySem.Heap) (tk : Nat), Heap.SetOf (strKind prog w) h' s.heap.objs.size (fun k' => decide (k' ∈ xs.foldl addS [])) (xs.foldl addS []).length → (∀ b o, s.heap.get? b = some o → h'.get? b = some o) → Q (.ref s.heap.objs.size) { s with heap := h', toks := tk }) :
    wpAny (model prog w) A (call (.type "set") [.ref l]) Q E s := by
  obtain ⟨c, tl, hm⟩ := F.called_set.mro
  refine wpAny_call (codeAny_of_tree ?_)
  show wpAny (model prog w) _ (pure (Fin.again (Code.builtin "type.__call__" { pos := [.type "set", .ref l] }))) _ _ _
  refine wpAny_pure ⟨Code.quiet_builtin _ (by decide +kernel), ?_⟩
  refine codeAny_builtin F.entry_type_call ?_
  rw [Around.under_plain (weight_type_call_type ..) rfl]
  unfold Builtin.«type.__call__»
  simp only
  refine wpAny_ite_false (by decide) ?_
  refine wpAny_ite_false (by rw [F.called_set.canCreate]; decide) ?_
  refine wpAny_bind (wpAny_of_eq (a := ()) (F.typeCall_set_1 _) ?_)
  refine wpAny_bind (wpAny_of_eq hm ?_)
  refine wpAny_ite_false rfl ?_
  refine wpAny_bind (wpAny_of_eq F.called_set.made ?_)
  simp only [pure_bind]
  refine wpAny_bind (wpAny_holding (wpAny_call (codeAny_mono (code_set_new_1 (E := E) (Q₁ := fun obj s1 => obj = .ref s.heap.objs.size ∧ ∃ led : Bool, s1 = { s with heap := s.heap.push { cls := .type "set", data := .set #[] 0 (SetTable.fresh 0 0 led) } }) (.ref l) fun led => ⟨rfl, led, rfl⟩) fun r s' hw => ?_)))
  cases r with
  | error e => exact hw
  | ok f =>
    cases f with
    | next => exact hw.elim
    | brk => exact hw.elim
    | cont => exact hw.elim
    | ret v =>
      obtain ⟨rfl, led, rfl⟩ := hw
      have hset : (s.heap.push { cls := .type "set", data := .set #[] 0 (SetTable.fresh 0 0 led) }).get? s.heap.objs.size = some { cls := .type "set", data := .set #[] 0 (SetTable.fresh 0 0 led) } := Heap.get?_push_size _ rfl
      have hT : ({ s with heap := s.heap.push { cls := .type "set", data := .set #[] 0 (SetTable.fresh 0 0 led) } } : Shared).TypeIs (.ref s.heap.objs.size) "set" := ⟨_, hset, rfl⟩
      refine wpAny_bind (wpAny_isInstance hT F.called_set.sub ?_)
      refine wpAny_ite_false (by decide) (wpAny_bind (wpAny_holding (wpAny_callSpecial?_slot hT F.slot_set_init (wpAny_call (codeAny_call_builtin F.slot_set_init.plain F.entry_set_init (check_set_init_1 hT ?_))))))
      unfold Builtin.«set.__init__»
      refine wpAny_bind (wpAny_of_eq (a := ()) rfl ?_)
      simp only
      unfold typeNameOfCut shownTypeOf
      refine wpAny_bind (wpAny_bind (wpAny_bind (wpAny_typeOf hT (wpAny_ite_false (by decide) (wpAny_pure ?_)))))
      refine wpAny_of_eq (a := "set") rfl ?_
      refine wpAny_bind (wpAny_of_eq (a := ()) (by with_unfolding_all rfl) ?_)
      refine wpAny_bind (wpAny_of_eq (a := s.heap.objs.size) rfl ?_)
      refine wpAny_bind ?_
      unfold setUsed setState
      refine wpAny_bind (wpAny_bind (wpAny_load' hset ?_))
      simp only
      refine wpAny_ite_false (by cases led <;> decide) (wpAny_pure (wpAny_pure ?_))
      refine wpAny_ite_false (by cases led <;> decide) ?_
      refine wpAny_bind ?_
      have lt : l < s.heap.objs.size := by
        obtain ⟨o, h1, _⟩ := hl
        exact Heap.lt_size h1
      have hl2 : (s.heap.push { cls := .type "set", data := .set #[] 0 (SetTable.fresh 0 0 led) }).IsList l items := by
        obtain ⟨o, h1, h2⟩ := hl
        exact ⟨o, Heap.get?_push_of_some _ h1, h2⟩
      have hTl : ({ s with heap := s.heap.push { cls := .type "set", data := .set #[] 0 (SetTable.fresh 0 0 led) } } : Shared).TypeIs (.ref l) "list" := hl2.typeIs
      unfold Builtin.Frozenset.updateFrom
      refine wpAny_bind ?_
      have any : ∀ {Q' : Bool → Shared → Prop} {E' : Value → Shared → Prop}, Q' false ({ s with heap := s.heap.push { cls := .type "set", data := .set #[] 0 (SetTable.fresh 0 0 led) } } : Shared) → wpAny (model prog w) A.in1.in1 (Builtin.Frozenset.isAnySet (.ref l)) Q' E' { s with heap := s.heap.push { cls := .type "set", data := .set #[] 0 (SetTable.fresh 0 0 led) } } := fun {Q' E'} hq => by
        unfold Builtin.Frozenset.isAnySet orM
        refine wpAny_bind (wpAny_isInstance hTl F.sub_list_set ?_)
        exact wpAny_isInstance hTl F.sub_list_frozenset hq
      refine any ?_
      refine wpAny_ite_false (by decide) ?_
      refine wpAny_bind (wpAny_typeOf hTl (wpAny_ite_false (by decide) ?_))
      refine wpAny_bind (wpAny_pyIter_list hl2 ?_)
      refine wpAny_bind (wpAny_runValue ?_)
      have sz : (s.heap.push { cls := .type "set", data := .set #[] 0 (SetTable.fresh 0 0 led) }).objs.size = s.heap.objs.size + 1 := Heap.size_push ..
      have hsz : items.size = xs.length := by
        have := hs.len_eq
        rw [Array.length_toList] at this
        exact this
      rw [show ({ s with heap := s.heap.push { cls := .type "set", data := .set #[] 0 (SetTable.fresh 0 0 led) } } : Shared).heap.objs.size = s.heap.objs.size + 1 from sz]
      refine loopT (Walks.toS (Walks.list (show A.in1.in1.in1.handled = none from hA) (s.heap.objs.size + 1) l (Nat.ne_of_lt (Nat.lt_succ_of_lt lt)) items)) s.heap.objs.size (fun z => (List.mem_cons.mp z).elim (fun z => absurd z (Nat.ne_of_lt (Nat.lt_succ_self _))) fun z => absurd (List.mem_singleton.mp z).symm (Nat.ne_of_lt lt)) xs hsz.symm (by omega) (fun i v e => ?_) items.size 0 _ [] rfl (Nat.zero_le _) ⟨⟨_, by rw [← sz]; exact Heap.get?_push_size _ rfl, rfl, rfl⟩, ?_⟩ ?_ (Nat.zero_le _) fun s' mv so => ?_
      · have e : items.toList[i]? = some v := by rw [Array.getElem?_toList]; exact e
        exact SS.strs_at hs i v e
      · obtain ⟨o, h1, h2⟩ := hl2
        exact ⟨o, Heap.get?_push_of_some _ h1, h2⟩
      · exact SetOf_congr ((setObjOf_fresh led).setOf (Heap.get?_push_of_some _ hset) (Nat.lt_of_le_of_lt (Nat.zero_le _) hb)) (fun k => rfl) rfl
      · refine wpAny_pure (wpAny_pure (wpAny_ite_false (by decide) (wpAny_pure ?_)))
        have es : s' = { s with heap := s'.heap, toks := s'.toks } := by
          cases s'
          have h1 := mv.gens
          have h2 := mv.drawn
          have h3 := mv.os
          simp only at h1 h2 h3
          subst h1 h2 h3
          rfl
        rw [es]
        refine k s'.heap s'.toks so fun b o eb => ?_
        have lb : b < s.heap.objs.size := Heap.lt_size eb
        exact mv.heap b o (fun z => (List.mem_cons.mp z).elim (fun z => absurd z (Nat.ne_of_lt lb)) fun z => absurd (List.mem_singleton.mp z) (Nat.ne_of_lt (Nat.lt_succ_of_lt lb))) (Heap.get?_push_of_some _ (Heap.get?_push_of_some _ eb))
theorem strs_are : ∀ {xs : List Str} {us : List Value}, Vals (xs.map V.str) us → StrsAre us xs
  | [], _, h => by cases h; exact .nil
  | x :: xs, _, h => by
    cases h with
    | cons h t =>
      obtain ⟨tk, rfl⟩ := h
      exact .cons _ _ (strs_are t)
/-- len(set(..)) of a list of texts -/
def tLenSetT (K : PySem.W.Frag) (ta : TE) : TE := fun σ H Q => ta σ H fun x H1 => ∃ (l : Addr) (xs : List Str), x = V.ref l ∧ SqL K H1 l (xs.map V.str) ∧ xs.length < 4000 ∧ Q (.int ((xs.foldl addS []).length : Nat)) H1
theorem pe_lenSetT {X : Cx} {a : Expr} {ta : TE} {p p2 q pos : Pos} (hc : X.calm = true) (h1 : Gl X "len") (m1 : X.mg "len" = none) (h2 : Gl X "set") (m2 : X.mg "set" = none) (ha : PE X a ta) (hs : starEach [a] X.env = (false, eval a X.env) :: starEach [] X.env) :
    PE X (.Call (.Name "len" p) [.Call (.Name "set" p2) [a] [] q] [] pos) (tLenSetT X.K ta) := by
  refine ⟨fun pins s σ H Q I qq => ?_⟩
  refine Call_ (ld_blt I h1 m1 boot_len ?_ (by decide) (by decide))
  refine callWith_builtin1 (args_cons (Call_ (ld_blt I h2 m2 boot_set ?_ (by decide) (by decide)))) rfl rfl
  refine PyProof.Rows.callWith_type1 (args_cons (thn (ha.run pins s σ H _ I qq) fun v s1 ⟨x, H1, I1, r1, l, xs, ex, hl, hz, q1⟩ => args_nil ?_) hs) hs rfl
  subst ex
  cases r1
  obtain ⟨its, rv, pl, _⟩ := I1.list hl
  have hA : X.A.handled = none := I1.ok.hd hc
  have sb : scanBound = 4096 := rfl
  refine call_setT hA pl.isList (strs_are rv) (by omega) fun h' tk so keep => args_nil ?_
  obtain ⟨o, es, ep, t, g1, g2, g3, _, _, g6, g7, g8⟩ := so
  have I2 : Inv X pins σ H1 { s1 with heap := h', toks := tk } := I1.kept (t' := tk) keep
  refine call_len_set g1 g2 g3 g7 (by omega) ?_
  rw [g8]
  exact ⟨.int _, H1, I1.kept (t' := tk + 1 + 1) keep, ⟨_, rfl⟩, q1⟩
end M
namespace M
open PySem PySem.Spec PyProof.Rows L2
/-- an iterator that hands on these items, as long as what it walks stands -/
def RI (S : RS) (p : List Val × Pin) (J : It) : Prop := ∀ S2 : RS, ExtW S S2 → Good S2 → pinned S2.h p.2 = true → ∀ i : Nat,
  (∀ v, p.1[i]? = some v → J.go i S2.H ∧ ∀ x H', J.yld i S2.H x H' → ∃ S3 : RS, S3.H = H' ∧ S3.h = S2.h ∧ Good S3 ∧ Ext S2 S3 ∧ Rel S3 v x) ∧ (p.1[i]? = none → J.stop i S2.H)
theorem RI.ext {S S' : RS} {p : List Val × Pin} {J : It} (h : RI S p J) (e : Ext S S') : RI S' p J := fun S2 e2 => h S2 (e.w.trans e2)
theorem get_len {vs : List Val} {xs : List V} {S : RS} {i : Nat} (r : Rels S vs xs) (h : vs[i]? = none) : xs.length ≤ i := by
  rw [← r.len]
  exact List.getElem?_eq_none_iff.mp h
/-- one turn over a thing read as it stands -/
theorem ri_list {K : PySem.W.Frag} {S : RS} {a : Addr} {l : List Val} {pin : Pin} (h : ∀ S2 : RS, ExtW S S2 → Good S2 → pinned S2.h pin = true → ∃ ys, SqL K S2.H a ys ∧ Rels S2 l ys) : RI S (l, pin) (Itl K a) := fun S2 e2 g2 hp i => by
  obtain ⟨ys, hq, r⟩ := h S2 e2 g2 hp
  refine ⟨fun v hv => ?_, fun hn => ⟨ys, hq, get_len r hn⟩⟩
  obtain ⟨x, hx, rx⟩ := r.get hv
  refine ⟨⟨ys, x, hq, hx⟩, fun y H' z => ?_⟩
  obtain ⟨rfl, z⟩ := z
  have e := z ys hq
  rw [hx] at e
  cases e
  exact ⟨S2, rfl, rfl, g2, .refl, rx⟩
theorem ri_tup {K : PySem.W.Frag} {S : RS} {a : Addr} {l : List Val} (h : ∀ S2 : RS, ExtW S S2 → ∃ ys, SqT K S2.H a ys ∧ Rels S2 l ys) : RI S (l, none) (Itt K a) := fun S2 e2 g2 hp i => by
  obtain ⟨ys, hq, r⟩ := h S2 e2
  refine ⟨fun v hv => ?_, fun hn => ⟨ys, hq, get_len r hn⟩⟩
  obtain ⟨x, hx, rx⟩ := r.get hv
  refine ⟨⟨ys, x, hq, hx⟩, fun y H' z => ?_⟩
  obtain ⟨rfl, z⟩ := z
  have e := z ys hq
  rw [hx] at e
  cases e
  exact ⟨S2, rfl, rfl, g2, .refl, rx⟩
theorem ri_str {S : RS} {s : T} (a : asc s = true) : RI S (s.map fun c => .str [c], none) (Its (toS s)) := fun S2 e2 g2 hp i => by
  have hz : (toS s).cps.size = s.length := by simp [toS]
  refine ⟨fun v hv => ?_, fun hn => ?_⟩
  · rw [List.getElem?_map] at hv
    obtain ⟨c, hc, rfl⟩ := Option.map_eq_some_iff.mp hv
    have hi : i < s.length := (List.getElem?_eq_some_iff.mp hc).1
    refine ⟨by show i < _; rw [hz]; exact hi, fun y H' z => ?_⟩
    obtain ⟨rfl, d, hd, rfl⟩ := z
    have e : (toS s).cps[i]? = some c := by simp [toS, hc]
    rw [e] at hd
    cases hd
    refine ⟨S2, rfl, rfl, g2, .refl, rfl, ?_⟩
    refine asc_iff.mpr ⟨fun x hx => ?_, by show 1 ≤ SL; decide⟩
    rw [List.mem_singleton.mp hx]
    exact (asc_iff.mp a).1 c (List.mem_of_getElem? hc)
  · rw [List.getElem?_map, Option.map_eq_none_iff] at hn
    show _ ≤ i
    rw [hz]
    exact List.getElem?_eq_none_iff.mp hn
theorem rangeL_get : ∀ (n : Nat) (lo : Int) (i : Nat), (rangeL lo n)[i]? = if i < n then some (.int (lo + i)) else none
  | 0, lo, i => by simp [rangeL]
  | n + 1, lo, 0 => by simp [rangeL]
  | n + 1, lo, i + 1 => by
    have h := rangeL_get n (lo + 1) i
    have e : lo + 1 + (i : Int) = lo + ((i + 1 : Nat) : Int) := by omega
    rw [e] at h
    simp only [rangeL, List.getElem?_cons_succ, h, Nat.add_lt_add_iff_right]
theorem rangeD_get : ∀ (n : Nat) (lo : Int) (i : Nat), (rangeD lo n)[i]? = if i < n then some (.int (lo + (i : Int) * (-1))) else none
  | 0, lo, i => by simp [rangeD]
  | n + 1, lo, 0 => by simp [rangeD]
  | n + 1, lo, i + 1 => by
    have h := rangeD_get n (lo - 1) i
    have e : lo - 1 + (i : Int) * (-1) = lo + ((i + 1 : Nat) : Int) * (-1) := by omega
    rw [e] at h
    simp only [rangeD, List.getElem?_cons_succ, h, Nat.add_lt_add_iff_right]
theorem ri_range {S : RS} {lo : Int} {n : Nat} : RI S (rangeL lo n, none) (Itr lo n) := fun S2 e2 g2 hp i => by
  refine ⟨fun v hv => ?_, fun hn => ?_⟩
  · have hv : (rangeL lo n)[i]? = some v := hv
    rw [rangeL_get] at hv
    split at hv
    · rename_i hi
      cases hv
      refine ⟨hi, fun y H' z => ?_⟩
      obtain ⟨rfl, rfl⟩ := z
      exact ⟨S2, rfl, rfl, g2, .refl, rfl⟩
    · cases hv
  · have hn : (rangeL lo n)[i]? = none := hn
    rw [rangeL_get] at hn
    split at hn
    · cases hn
    · rename_i hi
      exact Nat.le_of_not_lt hi
theorem ri_rangeD {S : RS} {lo : Int} {n : Nat} : RI S (rangeD lo n, none) (Itc lo (-1) n) := fun S2 e2 g2 hp i => by
  refine ⟨fun v hv => ?_, fun hn => ?_⟩
  · have hv : (rangeD lo n)[i]? = some v := hv
    rw [rangeD_get] at hv
    split at hv
    · rename_i hi
      cases hv
      refine ⟨hi, fun y H' z => ?_⟩
      obtain ⟨rfl, rfl⟩ := z
      exact ⟨S2, rfl, rfl, g2, .refl, rfl⟩
    · cases hv
  · have hn : (rangeD lo n)[i]? = none := hn
    rw [rangeD_get] at hn
    split at hn
    · cases hn
    · rename_i hi
      exact Nat.le_of_not_lt hi
theorem enumL_get : ∀ (l : List Val) (k : Int) (i : Nat), (enumL k l)[i]? = (l[i]?).map fun v => .tup [.int (k + i), v]
  | [], k, i => by simp [enumL]
  | x :: r, k, 0 => by simp [enumL]
  | x :: r, k, i + 1 => by
    have h := enumL_get r (k + 1) i
    have e : k + 1 + (i : Int) = k + ((i + 1 : Nat) : Int) := by omega
    rw [e] at h
    simp only [enumL, List.getElem?_cons_succ, h]
theorem ri_enum {K : PySem.W.Frag} {S : RS} {a : Addr} {l : List Val} {pin : Pin} (h : ∀ S2 : RS, ExtW S S2 → Good S2 → pinned S2.h pin = true → ∃ ys, SqL K S2.H a ys ∧ Rels S2 l ys) : RI S (enumL 0 l, pin) (Ite K a) := fun S2 e2 g2 hp i => by
  obtain ⟨ys, hq, r⟩ := h S2 e2 g2 hp
  refine ⟨fun v hv => ?_, fun hn => ?_⟩
  · have hv : (enumL 0 l)[i]? = some v := hv
    rw [enumL_get] at hv
    obtain ⟨w, hw, rfl⟩ := Option.map_eq_some_iff.mp hv
    obtain ⟨x, hx, rx⟩ := r.get hw
    refine ⟨⟨ys, x, hq, hx⟩, fun y H' z => ?_⟩
    obtain ⟨p, x', rfl, hn, rfl, z⟩ := z
    have e := z ys hq
    rw [hx] at e
    cases e
    refine ⟨S2.put p (.tup [.int (i : Nat), x]), rfl, rfl, good_put g2 hn, ext_put hn, rel_tup g2 hn ⟨_, _, rfl, ?_, _, _, rfl, rx, rfl⟩⟩
    show _ = _
    rw [Int.zero_add]
  · have hn : (enumL 0 l)[i]? = none := hn
    rw [enumL_get, Option.map_eq_none_iff] at hn
    exact ⟨ys, hq, get_len r hn⟩
theorem ri_enumT {K : PySem.W.Frag} {S : RS} {a : Addr} {l : List Val} (h : ∀ S2 : RS, ExtW S S2 → ∃ ys, SqT K S2.H a ys ∧ Rels S2 l ys) : RI S (enumL 0 l, none) (IteT K a) := fun S2 e2 g2 hp i => by
  obtain ⟨ys, hq, r⟩ := h S2 e2
  refine ⟨fun v hv => ?_, fun hn => ?_⟩
  · have hv : (enumL 0 l)[i]? = some v := hv
    rw [enumL_get] at hv
    obtain ⟨w, hw, rfl⟩ := Option.map_eq_some_iff.mp hv
    obtain ⟨x, hx, rx⟩ := r.get hw
    refine ⟨⟨ys, x, hq, hx⟩, fun y H' z => ?_⟩
    obtain ⟨p, x', rfl, hn, rfl, z⟩ := z
    have e := z ys hq
    rw [hx] at e
    cases e
    refine ⟨S2.put p (.tup [.int (i : Nat), x]), rfl, rfl, good_put g2 hn, ext_put hn, rel_tup g2 hn ⟨_, _, rfl, ?_, _, _, rfl, rx, rfl⟩⟩
    show _ = _
    rw [Int.zero_add]
  · have hn : (enumL 0 l)[i]? = none := hn
    rw [enumL_get, Option.map_eq_none_iff] at hn
    exact ⟨ys, hq, get_len r hn⟩
theorem zipL_get : ∀ (l k : List Val) (i : Nat), (zipL l k)[i]? = match l[i]?, k[i]? with
    | some v, some w => some (.tup [v, w])
    | _, _ => none
  | [], k, i => by simp [zipL]
  | x :: r, [], i => by
    simp only [zipL, List.getElem?_nil]
    cases (x :: r)[i]? <;> rfl
  | x :: r, y :: s, 0 => by simp [zipL]
  | x :: r, y :: s, i + 1 => by
    have h := zipL_get r s i
    simp only [zipL, List.getElem?_cons_succ, h]
theorem ri_zip {K : PySem.W.Frag} {S : RS} {a b : Addr} {l k : List Val} {xs ys : List V} (h1 : FzL S a xs) (r1 : Rels S l xs) (h2 : FzL S b ys) (r2 : Rels S k ys) : RI S (zipL l k, none) (Itz K a b) := fun S2 e2 g2 hp i => by
  have q1 : SqL K S2.H a xs := (e2.fzL h1).sq (S := { S2 with K := K })
  have q2 : SqL K S2.H b ys := (e2.fzL h2).sq (S := { S2 with K := K })
  have r1 := r1.extW e2
  have r2 := r2.extW e2
  have z0 := zipL_get l k i
  refine ⟨fun v hv => ?_, fun hn => ?_⟩
  · have hv : (zipL l k)[i]? = some v := hv
    rw [z0] at hv
    cases e1 : l[i]? with
    | none => rw [e1] at hv; cases hv
    | some v1 =>
      cases e3 : k[i]? with
      | none => rw [e1, e3] at hv; cases hv
      | some v2 =>
        rw [e1, e3] at hv
        cases hv
        obtain ⟨x, hx, rx⟩ := r1.get e1
        obtain ⟨y, hy, ry⟩ := r2.get e3
        refine ⟨⟨xs, ys, x, y, q1, q2, hx, hy⟩, fun u H' z => ?_⟩
        obtain ⟨p, x', y', rfl, hn, rfl, z1, z2⟩ := z
        have f1 := z1 xs q1
        have f2 := z2 ys q2
        rw [hx] at f1
        rw [hy] at f2
        cases f1; cases f2
        exact ⟨S2.put p (.tup [x, y]), rfl, rfl, good_put g2 hn, ext_put hn, rel_tup g2 hn ⟨_, _, rfl, rx, _, _, rfl, ry, rfl⟩⟩
  · have hn : (zipL l k)[i]? = none := hn
    rw [z0] at hn
    refine ⟨xs, ys, q1, q2, ?_⟩
    cases e1 : l[i]? with
    | none => exact .inl (get_len r1 e1)
    | some v1 =>
      cases e3 : k[i]? with
      | none => exact .inr (get_len r2 e3)
      | some v2 => rw [e1, e3] at hn; cases hn
theorem ri_zipT {K : PySem.W.Frag} {S : RS} (hK : S.K = K) {a b : Addr} {l k : List Val} {xs ys : List V} (h1 : FzT S a xs) (r1 : Rels S l xs) (h2 : FzT S b ys) (r2 : Rels S k ys) : RI S (zipL l k, none) (RZ.ItzT K a b) := fun S2 e2 g2 hp i => by
  have q1 : SqT K S2.H a xs := by rw [← hK, ← e2.K]; exact (e2.fzT h1).sq
  have q2 : SqT K S2.H b ys := by rw [← hK, ← e2.K]; exact (e2.fzT h2).sq
  have r1 := r1.extW e2
  have r2 := r2.extW e2
  have z0 := zipL_get l k i
  refine ⟨fun v hv => ?_, fun hn => ?_⟩
  · have hv : (zipL l k)[i]? = some v := hv
    rw [z0] at hv
    cases e1 : l[i]? with
    | none => rw [e1] at hv; cases hv
    | some v1 =>
      cases e3 : k[i]? with
      | none => rw [e1, e3] at hv; cases hv
      | some v2 =>
        rw [e1, e3] at hv
        cases hv
        obtain ⟨x, hx, rx⟩ := r1.get e1
        obtain ⟨y, hy, ry⟩ := r2.get e3
        refine ⟨⟨xs, ys, x, y, q1, q2, hx, hy⟩, fun u H' z => ?_⟩
        obtain ⟨p, x', y', rfl, hn, rfl, z1, z2⟩ := z
        have f1 := z1 xs q1
        have f2 := z2 ys q2
        rw [hx] at f1
        rw [hy] at f2
        cases f1; cases f2
        exact ⟨S2.put p (.tup [x, y]), rfl, rfl, good_put g2 hn, ext_put hn, rel_tup g2 hn ⟨_, _, rfl, rx, _, _, rfl, ry, rfl⟩⟩
  · have hn : (zipL l k)[i]? = none := hn
    rw [z0] at hn
    refine ⟨xs, ys, q1, q2, ?_⟩
    cases e1 : l[i]? with
    | none => exact .inl (get_len r1 e1)
    | some v1 =>
      cases e3 : k[i]? with
      | none => exact .inr (get_len r2 e3)
      | some v2 => rw [e1, e3] at hn; cases hn
/-- what a walked value is: at each later time its items -/
theorem lst_stands {K : PySem.W.Frag} {S : RS} (g : Good S) {v : Val} {x : V} {l : List Val} {pin : Pin} (r : Rel S v x) (ht : isTup v = false) (e : itVal S.h v = some (l, pin)) :
    ∃ a ys, x = .ref a ∧ SqL K S.H a ys ∧ ∀ S2 : RS, ExtW S S2 → Good S2 → pinned S2.h pin = true → ∃ ys, SqL K S2.H a ys ∧ Rels S2 l ys := by
  cases v with
  | list xs =>
    cases e
    obtain ⟨a, ys, rfl, f, r⟩ := r
    exact ⟨a, ys, rfl, .inl (.inl f.1), fun S2 e2 g2 _ => ⟨ys, .inl (.inl (e2.fzL f).1), r.extW e2⟩⟩
  | ref n =>
    unfold itVal at e
    simp only at e
    cases q : S.h[n]? with
    | none => rw [q] at e; cases e
    | some o =>
      rw [q] at e
      cases o with
      | list xs =>
        cases e
        obtain ⟨a, ys, rfl, ha, hH, rz⟩ := ref_lst g r q
        refine ⟨a, ys, rfl, .inl (.inl hH), fun S2 e2 g2 hp => ?_⟩
        unfold pinned at hp
        simp only at hp
        cases q2 : S2.h[n]? with
        | none => rw [q2] at hp; cases hp
        | some o2 =>
          rw [q2] at hp
          cases o2 with
          | list zs =>
            have ez := sames_eq hp
            subst ez
            obtain ⟨vs, h2, r2⟩ := g2.obj n _ a q2 (e2.at ha)
            exact ⟨vs, .inl (.inl h2), r2⟩
          | _ => cases hp
      | _ => cases e
  | _ => cases ht
section
variable {X : Cx} {tg e a b : Expr} {f ga : Loc → Heap → Res Val}
def iAny (K : PySem.W.Frag) (te : TE) : TI := fun σ H R => te σ H fun x H1 => (∃ a, x = .ref a ∧ (∃ xs, SqL K H1 a xs) ∧ R (Itl K a) H1) ∨ (∃ a, x = .ref a ∧ (∃ xs, SqT K H1 a xs) ∧ R (Itt K a) H1) ∨ ∃ z, x = .str z ∧ R (Its z) H1
theorem pi_any {te : TE} (he : PE X e te) : PI X tg e (iAny X.K te) := by
  refine ⟨fun pins s σ H R I h => ?_⟩
  refine thn (he.run pins s σ H _ I h) fun v s1 ⟨x, H1, I1, r1, q1⟩ => ?_
  rcases q1 with ⟨a, rfl, ⟨xs, hq⟩, q⟩ | ⟨a, rfl, ⟨xs, hq⟩, q⟩ | ⟨z, rfl, q⟩
  · cases r1
    obtain ⟨its, rv, p, _⟩ := I1.list hq
    exact wpAny_pyIter_list p.isList (pi_one (tk := s1.toks) I1 _ (turn_list a _) ⟨_, Heap.get?_push_size _ rfl, rfl, rfl⟩ q)
  · cases r1
    obtain ⟨its, rv, p, _⟩ := I1.tuple hq
    exact wpAny_pyIter_tuple (show s1.heap.IsTuple a its.toArray from p) (pi_one (tk := s1.toks) I1 _ (turn_tuple a _) ⟨_, Heap.get?_push_size _ rfl, rfl, rfl⟩ q)
  · obtain ⟨t, rfl⟩ := r1
    cases ha : z.cps.all (· < 128)
    · exact wpAny_pyIter_wide ha (pi_one (tk := s1.toks) I1 _ (turn_str _ z t "str_iterator" (.inr rfl)) ⟨_, Heap.get?_push_size _ rfl, rfl, rfl⟩ q)
    · exact wpAny_pyIter_ascii ha (pi_one (tk := s1.toks) I1 _ (turn_str _ z t "str_ascii_iterator" (.inl rfl)) ⟨_, Heap.get?_push_size _ rfl, rfl, rfl⟩ q)
theorem PI.wk {wi wi' : TI} (h : PI X tg e wi) (w : ∀ σ H R, wi' σ H R → wi σ H R) : PI X tg e wi' := ⟨fun pins s σ H R I q => h.run pins s σ H R I (w σ H R q)⟩
abbrev tI (K : PySem.W.Frag) (f : Loc → Heap → Res (List Val × Pin)) : TI := tG K RI f
theorem pi_valM (he : PE X e (tM X.K f)) : PI X tg e (tI X.K fun ls h => (f ls h).bind fun v h => match itVal h v with
    | some p => .ok p h
    | none => .stuck) := by
  refine PI.wk (pi_any he) fun σ H R q => ?_
  refine tM_bind (g := fun ls v h => match itVal h v with
    | some p => .ok p h
    | none => .stuck) q fun v x S ls hK g l r p => ?_
  cases e1 : itVal S.h v with
  | none => rw [e1] at p; exact p.elim
  | some lp =>
    rw [e1] at p
    obtain ⟨items, pin⟩ := lp
    cases v with
    | tup xs =>
      cases e1
      obtain ⟨a, ys, rfl, f, r⟩ := r
      refine .inr (.inl ⟨a, rfl, ⟨ys, by rw [← hK]; exact f.sq⟩, PostG.here p g (ri_tup fun S2 e2 => ⟨ys, by rw [← hK, ← e2.K]; exact (e2.fzT f).sq, r.extW e2⟩)⟩)
    | str s =>
      cases e1
      obtain ⟨rfl, a⟩ := r
      exact .inr (.inr ⟨_, rfl, PostG.here p g (ri_str a)⟩)
    | list xs =>
      obtain ⟨a, ys, rfl, hq, k⟩ := lst_stands (K := X.K) g r rfl e1
      exact .inl ⟨a, rfl, ⟨ys, hq⟩, PostG.here p g (ri_list k)⟩
    | ref n =>
      obtain ⟨a, ys, rfl, hq, k⟩ := lst_stands (K := X.K) g r rfl e1
      exact .inl ⟨a, rfl, ⟨ys, hq⟩, PostG.here p g (ri_list k)⟩
    | _ => cases e1
theorem rl_ok {i : Int} (h : -RL ≤ i ∧ i ≤ RL) : -(2 ^ 62) ≤ i ∧ i < 2 ^ 62 := by unfold RL at h; omega
variable {fs : Loc → Heap → Res (List Val)}
def rngF (fs : Loc → Heap → Res (List Val)) : Loc → Heap → Res (List Val × Pin) := fun ls h => (fs ls h).bind fun vs h => match itRange vs with
  | some l => .ok (l, none) h
  | none => .stuck
theorem ints1 {S : RS} {vs : List Val} {xs : List V} {j : Int} (r : Rels S vs xs) (e : vs = [.int j]) : xs = [.int j] := by
  subst e
  obtain ⟨x, t, rfl, h, e⟩ := r
  cases h; cases e; rfl
theorem pi_rng {p pos : Pos} {es : List Expr} (hg : Gl X "range") (hm : X.mg "range" = none) (hp : plainsE es = true) (h1 : 1 ≤ es.length) (h3 : es.length ≤ 3) (ha : PA X es (tAs X.K fs)) (hl : ∀ ls h h' vs, fs ls h = .ok vs h' → vs.length = es.length) :
    PI X tg (.Call (.Name "range" p) es [] pos) (tI X.K (rngF fs)) := by
  match es, hp, h1, h3, ha, hl with
  | [a], hp, _, _, ha, hl =>
    have hp1 := (Bool.and_eq_true_iff.mp (show (plainE a && plainsE []) = true from hp)).1
    refine PI.wk (pi_range1 hg hm ha (star_plain hp1)) fun σ H R q => ?_
    obtain ⟨S0, ls, hK, hH, g0, l0, p0⟩ := q
    subst hH
    refine ⟨S0, ls, hK, rfl, g0, l0, PostG.bind (g := fun vs h => match itRange vs with
      | some l => .ok (l, none) h
      | none => .stuck) p0 fun vs xs S e1 g e2 r p => ?_⟩
    have hlen := hl _ _ _ _ e1
    match vs, hlen, r, p with
    | [v], _, r, p =>
      cases v with
      | int j =>
        obtain ⟨x, t, rfl, hx, et⟩ := r
        cases et; cases hx
        by_cases hc : -RL ≤ j ∧ j ≤ RL
        · have p : PostG RI S (if -RL ≤ j ∧ j ≤ RL then .ok (rangeL 0 j.toNat, none) S.h else .stuck) (fun J H' => R J H') := by
            have ei : itRange [.int j] = if -RL ≤ j ∧ j ≤ RL then some (rangeL 0 j.toNat) else none := itR1 _
            rw [ei, if_pos hc] at p
            rw [if_pos hc]; exact p
          rw [if_pos hc] at p
          exact ⟨j, rfl, (rl_ok hc).1, (rl_ok hc).2, PostG.here p g ri_range⟩
        · have ei : itRange [.int j] = none := (itR1 j).trans (if_neg hc)
          rw [ei] at p
          exact p.elim
      | _ => exact p.elim
  | [a, b], hp, _, _, ha, hl =>
    have hp' := Bool.and_eq_true_iff.mp (show (plainE a && plainsE [b]) = true from hp)
    have hp2 := (Bool.and_eq_true_iff.mp (show (plainE b && plainsE []) = true from hp'.2)).1
    refine PI.wk (pi_range2 hg hm ha (by rw [star_plain hp'.1, star_plain hp2]; rfl) (by rw [star_plain hp2]; rfl)) fun σ H R q => ?_
    obtain ⟨S0, ls, hK, hH, g0, l0, p0⟩ := q
    subst hH
    refine ⟨S0, ls, hK, rfl, g0, l0, PostG.bind (g := fun vs h => match itRange vs with
      | some l => .ok (l, none) h
      | none => .stuck) p0 fun vs xs S e1 g e2 r p => ?_⟩
    have hlen := hl _ _ _ _ e1
    match vs, hlen, r, p with
    | [v, w], _, r, p =>
      cases v with
      | int i =>
        cases w with
        | int j =>
          obtain ⟨x, t, rfl, hx, y, t', rfl, hy, et⟩ := r
          cases et; cases hx; cases hy
          have ei : itRange [.int i, .int j] = if -RL ≤ i ∧ i ≤ RL ∧ -RL ≤ j ∧ j ≤ RL then some (rangeL i (j - i).toNat) else none := itR2 _ _
          by_cases hc : -RL ≤ i ∧ i ≤ RL ∧ -RL ≤ j ∧ j ≤ RL
          · rw [ei, if_pos hc] at p
            exact ⟨i, j, rfl, ⟨(rl_ok ⟨hc.1, hc.2.1⟩).1, (rl_ok ⟨hc.1, hc.2.1⟩).2, (rl_ok hc.2.2).1, (rl_ok hc.2.2).2⟩, PostG.here p g ri_range⟩
          · rw [ei, if_neg hc] at p
            exact p.elim
        | _ => exact p.elim
      | _ => exact p.elim
  | [a, b, c], hp, _, _, ha, hl =>
    have hp' := Bool.and_eq_true_iff.mp (show (plainE a && plainsE [b, c]) = true from hp)
    refine PI.wk (pi_range3 hg hm ha (star_plain hp'.1) (backs_plain hp'.2)) fun σ H R q => ?_
    obtain ⟨S0, ls, hK, hH, g0, l0, p0⟩ := q
    subst hH
    refine ⟨S0, ls, hK, rfl, g0, l0, PostG.bind (g := fun vs h => match itRange vs with
      | some l => .ok (l, none) h
      | none => .stuck) p0 fun vs xs S e1 g e2 r p => ?_⟩
    have hlen := hl _ _ _ _ e1
    match vs, hlen, r, p with
    | [v, w, u], _, r, p =>
      cases v with
      | int i =>
        cases w with
        | int j =>
          cases u with
          | int k =>
            obtain ⟨x, t, rfl, hx, y, t', rfl, hy, z, t'', rfl, hz, et⟩ := r
            cases et; cases hx; cases hy; cases hz
            have ei : itRange [.int i, .int j, .int k] = if -RL ≤ i ∧ i ≤ RL ∧ -RL ≤ j ∧ j ≤ RL ∧ k = -1 then some (rangeD i (i - j).toNat) else none := itR3 _ _ _
            by_cases hc : -RL ≤ i ∧ i ≤ RL ∧ -RL ≤ j ∧ j ≤ RL ∧ k = -1
            · rw [ei, if_pos hc] at p
              obtain ⟨c1, c2, c3, c4, rfl⟩ := hc
              exact ⟨i, j, -1, (i - j).toNat, rfl, .neg (rl_ok ⟨c1, c2⟩).1 (rl_ok ⟨c1, c2⟩).2 (rl_ok ⟨c3, c4⟩).1 (rl_ok ⟨c3, c4⟩).2, PostG.here p g ri_rangeD⟩
            · rw [ei, if_neg hc] at p
              exact p.elim
          | _ => exact p.elim
        | _ => exact p.elim
      | _ => exact p.elim
  | _ :: _ :: _ :: _ :: _, _, _, h3, _, _ => exact absurd h3 (by simp)
def isTupE : Expr → Bool
  | .Tuple .. => true
  | _ => false
theorem pi_enumM {p pos : Pos} (hg : Gl X "enumerate") (hm : X.mg "enumerate" = none) (ht : isTupE tg = true) (hp : plainE e = true) (he : PA X [e] (tAs X.K fs)) (hf : ∀ ls h, fs ls h = (f ls h).bind fun v h => .ok [v] h) :
    PI X tg (.Call (.Name "enumerate" p) [e] [] pos) (tI X.K fun ls h => (f ls h).bind fun v h => match isStr v, itVal h v with
    | false, some (l, pin) => .ok (enumL 0 l, pin) h
    | _, _ => .stuck) := by
  cases tg with
  | Tuple elts kk tpos =>
    refine PI.wk (pi_enumA hg hm he (star_plain hp)) fun σ H R q => ?_
    obtain ⟨S0, ls, hK, hH, g0, l0, p0⟩ := q
    subst hH
    refine ⟨S0, ls, hK, rfl, g0, l0, ?_⟩
    rw [hf]
    have p0 : PostG RI S0 (((f ls S0.h).bind fun v h => .ok [v] h).bind fun vs h => match vs with
      | [v] => (match isStr v, itVal h v with
        | false, some (l, pin) => .ok (enumL 0 l, pin) h
        | _, _ => .stuck)
      | _ => .stuck) (fun J H' => R J H') := by
      cases ef : f ls S0.h with
      | ok v h => simp only [ef, bind_ok] at p0 ⊢; exact p0
      | exc _ _ => simp only [ef, bind_exc] at p0 ⊢; exact p0
      | stuck => simp only [ef, bind_stuck] at p0 ⊢; exact p0
    refine PostG.bind p0 fun vs xs S e1 g e2 r p => ?_
    have hK2 : S.K = X.K := e2.K.trans hK
    match vs, r, p with
    | [v], r, p =>
      obtain ⟨x, t, rfl, rx, et⟩ := r
      cases et
      have p : PostG RI S (match isStr v, itVal S.h v with
        | false, some (l, pin) => .ok (enumL 0 l, pin) S.h
        | _, _ => .stuck) (fun J H' => R J H') := p
      cases e3 : isStr v with
      | true => rw [e3] at p; exact p.elim
      | false =>
        cases e4 : itVal S.h v with
        | none => rw [e3, e4] at p; exact p.elim
        | some lp =>
          obtain ⟨items, pin⟩ := lp
          rw [e3, e4] at p
          have p2 : PostG RI S (.ok (enumL 0 items, pin) S.h) (fun J H' => R J H') := p
          clear p
          cases v with
          | tup us =>
            cases e4
            obtain ⟨a, ys, rfl, ff, r⟩ := rx
            refine ⟨a, ys, rfl, .inr ⟨by rw [← hK2]; exact ff.sq, PostG.here p2 g (ri_enumT fun S2 e2 => ⟨ys, by rw [← hK2, ← e2.K]; exact (e2.fzT ff).sq, r.extW e2⟩)⟩⟩
          | str _ => cases e3
          | list us =>
            obtain ⟨a, ys, rfl, hq, k⟩ := lst_stands (K := X.K) g rx rfl e4
            cases e4
            exact ⟨a, ys, rfl, .inl ⟨hq, PostG.here p2 g (ri_enum k)⟩⟩
          | ref n =>
            obtain ⟨a, ys, rfl, hq, k⟩ := lst_stands (K := X.K) g rx rfl e4
            exact ⟨a, ys, rfl, .inl ⟨hq, PostG.here p2 g (ri_enum k)⟩⟩
          | _ => cases e4
    | [], _, p => exact p.elim
    | _ :: _ :: _, _, p => exact p.elim
  | _ => cases ht
theorem pi_zipM {p pos : Pos} (hg : Gl X "zip") (hm : X.mg "zip" = none) (ht : isTupE tg = true) (hp : plainE a = true) (hp2 : plainE b = true) (he : PA X [a, b] (tAs X.K fs)) (hf : ∀ ls h, fs ls h = (f ls h).bind fun v h => (ga ls h).bind fun w h => .ok [v, w] h) :
    PI X tg (.Call (.Name "zip" p) [a, b] [] pos) (tI X.K fun ls h => (f ls h).bind fun v h => (ga ls h).bind fun w h => zipR v w h) := by
  cases tg with
  | Tuple elts kk tpos =>
    refine PI.wk (RZ.pi_zipA hg hm he (star_plain hp) (backs_plain (by show (plainE b && plainsE []) = true; rw [hp2]; rfl))) fun σ H R q => ?_
    obtain ⟨S0, ls, hK, hH, g0, l0, p0⟩ := q
    subst hH
    refine ⟨S0, ls, hK, rfl, g0, l0, ?_⟩
    rw [hf]
    have p0 : PostG RI S0 (((f ls S0.h).bind fun v h => (ga ls h).bind fun w h => .ok [v, w] h).bind fun vs h => match vs with
      | [v, w] => zipR v w h
      | _ => .stuck) (fun J H' => R J H') := by
      cases ef : f ls S0.h with
      | ok v h =>
        simp only [ef, bind_ok] at p0 ⊢
        cases eg : ga ls h with
        | ok w h => simp only [eg, bind_ok] at p0 ⊢; exact p0
        | exc _ _ => simp only [eg, bind_exc] at p0 ⊢; exact p0
        | stuck => simp only [eg, bind_stuck] at p0 ⊢; exact p0
      | exc _ _ => simp only [ef, bind_exc] at p0 ⊢; exact p0
      | stuck => simp only [ef, bind_stuck] at p0 ⊢; exact p0
    refine PostG.bind p0 fun vs xs S e1 g e2 r p => ?_
    have hK2 : S.K = X.K := e2.K.trans hK
    match vs, r, p with
    | [], _, p => exact p.elim
    | [_], _, p => exact p.elim
    | _ :: _ :: _ :: _, _, p => exact p.elim
    | [v, w], r, p =>
      obtain ⟨x, t, rfl, rx, y, t', rfl, ry, et⟩ := r
      cases et
      have p : PostG RI S (zipR v w S.h) (fun J H' => R J H') := p
      cases v with
      | tup l =>
        cases w with
        | tup k =>
          obtain ⟨a1, ys, rfl, f1, r1⟩ := rx
          obtain ⟨b1, zs, rfl, f2, r2⟩ := ry
          exact ⟨a1, b1, ys, zs, rfl, .inr ⟨by rw [← hK2]; exact f1.sq, by rw [← hK2]; exact f2.sq, PostG.here p g (ri_zipT hK2 f1 r1 f2 r2)⟩⟩
        | _ => exact p.elim
      | list l =>
        cases w with
        | list k =>
          obtain ⟨a1, ys, rfl, f1, r1⟩ := rx
          obtain ⟨b1, zs, rfl, f2, r2⟩ := ry
          exact ⟨a1, b1, ys, zs, rfl, .inl ⟨.inl (.inl f1.1), .inl (.inl f2.1), PostG.here p g (ri_zip f1 r1 f2 r2)⟩⟩
        | _ => exact p.elim
      | _ => exact p.elim
  | _ => cases ht
end
end M
namespace M
open PySem PySem.Spec PyProof.Rows L2
/-! ### targets -/
theorem wipe_get {σ : L2.St} {i : Nat} : ∀ {is : List Nat}, i ∉ is → (wipe σ is)[i]? = σ[i]?
  | [], _ => rfl
  | v :: vs, h => by
    unfold wipe
    rw [List.getElem?_set_ne (fun e => h (by rw [e]; exact List.mem_cons_self ..)), wipe_get (fun m => h (List.mem_cons_of_mem _ m))]
theorem wipe_at {σ : L2.St} {i : Nat} : ∀ {is : List Nat}, i ∈ is → (wipe σ is)[i]? = if i < σ.length then some none else none
  | v :: vs, h => by
    unfold wipe
    by_cases e : v = i
    · subst e
      rw [List.getElem?_set_self']
      by_cases hl : v < σ.length
      · rw [if_pos hl, List.getElem?_eq_getElem (by rw [wipe_length]; exact hl)]; rfl
      · rw [if_neg hl, List.getElem?_eq_none (by rw [wipe_length]; exact Nat.le_of_not_lt hl)]; rfl
    · rw [List.getElem?_set_ne e]
      exact wipe_at ((List.mem_cons.mp h).resolve_left (fun z => e z.symm))
theorem wipe_set {σ : L2.St} {i : Nat} {x : Option V} {is : List Nat} (h : i ∈ is) : wipe (σ.set i x) is = wipe σ is := by
  apply List.ext_getElem?
  intro j
  by_cases hj : j ∈ is
  · rw [wipe_at hj, wipe_at hj, List.length_set]
  · rw [wipe_get hj, wipe_get hj, List.getElem?_set_ne (fun e => hj (by rw [← e]; exact h))]
/-- what a store reaches -/
def GOk (K : PySem.W.Frag) (t : Tg) (g : TG) : Prop := ∀ (S : RS) (v : Val) (x : V) (ls ls' : Loc) (σ : L2.St) (Q : L2.St → Hp → Prop), S.K = K → Good S → LRel S ls σ → Rel S v x → setTg t v ls = some ls' →
  (∀ σ', LRel S ls' σ' → (∀ is : List Nat, (∀ i ∈ t.slots, i ∈ is) → wipe σ' is = wipe σ is) → Q σ' S.H) → g x σ S.H Q
theorem gok_name {K : PySem.W.Frag} {i : Nat} : GOk K (.name i) (gName i) := fun S v x ls ls' σ Q hK g l r e k => by
  cases e
  exact k _ (l.set r i) fun is h => wipe_set (h i (List.mem_singleton.mpr rfl))
def GsOk (is : List Nat) (g : TGs) : Prop := ∀ (S : RS) (vs : List Val) (xs : List V) (ls ls' : Loc) (σ : L2.St) (Q : L2.St → Hp → Prop), Good S → LRel S ls σ → Rels S vs xs → setsTg is vs ls = some ls' →
  (∀ σ', LRel S ls' σ' → (∀ js : List Nat, (∀ i ∈ is, i ∈ js) → wipe σ' js = wipe σ js) → Q σ' S.H) → g xs σ S.H Q
theorem gsok_nil : GsOk [] gNil := fun S vs xs ls ls' σ Q g l r e k => by
  cases vs with
  | nil => cases e; cases r; exact ⟨rfl, k σ l fun _ _ => rfl⟩
  | cons _ _ => cases e
theorem gsok_cons {i : Nat} {is : List Nat} {u : TGs} (h : GsOk is u) : GsOk (i :: is) (gCons (gName i) u) := fun S vs xs ls ls' σ Q g l r e k => by
  cases vs with
  | nil => cases e
  | cons v vs =>
    obtain ⟨x, t, rfl, h1, h2⟩ := r
    refine ⟨x, t, rfl, h S vs t _ ls' _ Q g (l.set h1 i) h2 e fun σ' l' hw => k σ' l' fun js hj => ?_⟩
    rw [hw js fun m hm => hj m (List.mem_cons_of_mem _ hm), wipe_set (hj i (List.mem_cons_self ..))]
theorem sets_len : ∀ {is : List Nat} {vs : List Val} {ls ls' : Loc}, setsTg is vs ls = some ls' → vs.length = is.length
  | [], [], _, _, _ => rfl
  | [], _ :: _, _, _, h => by cases h
  | _ :: _, [], _, _, h => by cases h
  | _ :: is, _ :: vs, ls, ls', h => congrArg Nat.succ (sets_len (is := is) (vs := vs) h)
theorem gok_tup {K : PySem.W.Frag} {is : List Nat} {u : TGs} (h : GsOk is u) : GOk K (.tup is) (gTup K is.length u) := fun S v x ls ls' σ Q hK g l r e k => by
  cases v with
  | tup vs =>
    obtain ⟨a, xs, rfl, f, rs⟩ := r
    refine ⟨a, xs, rfl, by rw [← hK]; exact f.sq, ?_, h S vs xs ls ls' σ Q g l rs e k⟩
    rw [← rs.len]; exact sets_len e
  | _ => cases e
section
variable {X : Cx} {c : Ck} {k : Nat} {cl : CallFn}
def tgNames (c : Ck) : List Nat → List Expr → Bool
  | [], [] => true
  | i :: is, .Name x _ :: es => (match c.N[i]? with
    | some y => y == x
    | none => false) && inL x c.st && tgNames c is es
  | _, _ => false
def okTg (c : Ck) : Tg → Expr → Bool
  | .name i, .Name x _ => (match c.N[i]? with
    | some y => y == x
    | none => false) && inL x c.st
  | .tup is, .Tuple es _ _ => tgNames c is es
  | _, _ => false
theorem nm_at {i : Nat} {x : Str} (h : (match c.N[i]? with
    | some y => y == x
    | none => false) = true) : c.N[i]? = some x := by
  cases e : c.N[i]? with
  | none => rw [e] at h; cases h
  | some y => rw [e] at h; rw [eq_of_beq h]
theorem pg_nameM (F : CF X c k cl) {i : Nat} {x : Str} {pos : Pos} (h : (match c.N[i]? with
    | some y => y == x
    | none => false) = true) (hs : inL x c.st = true) : PG X (.Name x pos) (gName i) := by
  obtain ⟨h1, h2⟩ := F.st x (inL_ok hs)
  exact pg_name (by rw [F.hN]; exact F.nd) (by rw [F.hN]; exact nm_at h) h1 h2
theorem names_each {env : Env} : ∀ {is : List Nat} {es : List Expr}, tgNames c is es = true → (assignEach es env).length = is.length ∧ (assignEach es env).findIdx? (·.1) = none
  | [], [], _ => ⟨rfl, rfl⟩
  | [], _ :: _, h => by cases h
  | _ :: _, [], h => by cases h
  | i :: is, e :: es, h => by
    cases e with
    | Name x p =>
      have h' := (Bool.and_eq_true_iff.mp (show ((_ && inL x c.st) && tgNames c is es) = true from h)).2
      obtain ⟨h1, h2⟩ := names_each (env := env) h'
      refine ⟨?_, ?_⟩
      · show (assignEach es env).length + 1 = is.length + 1
        rw [h1]
      · have e1 : assignEach (.Name x p :: es) env = (false, assign (.Name x p) env) :: assignEach es env := rfl
        rw [e1, List.findIdx?_cons, h2]
        rfl
    | _ => cases h
theorem pgs_names (F : CF X c k cl) : ∀ {is : List Nat} {es : List Expr}, tgNames c is es = true → ∃ u, PGs X es u ∧ GsOk is u
  | [], [], _ => ⟨_, pgs_nil, gsok_nil⟩
  | [], _ :: _, h => by cases h
  | _ :: _, [], h => by cases h
  | i :: is, e :: es, h => by
    cases e with
    | Name x p =>
      have h' := Bool.and_eq_true_iff.mp (show ((_ && inL x c.st) && tgNames c is es) = true from h)
      have h'' := Bool.and_eq_true_iff.mp h'.1
      obtain ⟨u, h1, h2⟩ := pgs_names F h'.2
      exact ⟨_, pgs_cons (pg_nameM F h''.1 h''.2) h1, gsok_cons h2⟩
    | _ => cases h
theorem pg_ok (F : CF X c k cl) {t : Tg} {e : Expr} (h : okTg c t e = true) : ∃ g, PG X e g ∧ GOk X.K t g := by
  cases t with
  | name i =>
    cases e with
    | Name x p =>
      have h' := Bool.and_eq_true_iff.mp (show (_ && inL x c.st) = true from h)
      exact ⟨_, pg_nameM F h'.1 h'.2, gok_name⟩
    | _ => cases h
  | tup is =>
    cases e with
    | Tuple es n p =>
      have h : tgNames c is es = true := h
      obtain ⟨u, h1, h2⟩ := pgs_names F h
      obtain ⟨e1, e2⟩ := names_each (env := X.env) h
      exact ⟨_, pg_tup F.calm h1 e1 e2, gok_tup h2⟩
    | _ => cases h
end
/-! ### comprehensions -/
theorem killL_some : ∀ {is : List Nat} {ls : Loc} {i : Nat} {v : Val}, (killL is ls)[i]? = some (some v) → ls[i]? = some (some v) ∧ i ∉ is
  | [], _, _, _, h => ⟨h, by simp⟩
  | j :: is, ls, i, v, h => by
    obtain ⟨h1, h2⟩ := killL_some (is := is) (ls := ls.set j none) h
    by_cases e : j = i
    · subst e
      by_cases hl : j < ls.length
      · rw [List.getElem?_set_self hl] at h1; cases h1
      · rw [List.getElem?_eq_none (by simpa using Nat.le_of_not_lt hl)] at h1; cases h1
    · rw [List.getElem?_set_ne e] at h1
      exact ⟨h1, fun m => (List.mem_cons.mp m).elim (fun z => e z.symm) h2⟩
theorem killL_len : ∀ (is : List Nat) (ls : Loc), (killL is ls).length = ls.length
  | [], _ => rfl
  | j :: is, ls => by
    show (killL is (ls.set j none)).length = _
    rw [killL_len is, List.length_set]
theorem LRel.wiped {S : RS} {ls : Loc} {σ : L2.St} (l : LRel S ls σ) (is : List Nat) : LRel S (killL is ls) (wipe σ is) :=
  ⟨by rw [killL_len, wipe_length]; exact l.len, fun i v h => by
    obtain ⟨h1, h2⟩ := killL_some h
    rw [wipe_get h2]
    exact l.at_ i v h1⟩
mutual
/-- an accumulator of one's own changes nothing for what does not see it -/
theorem Rel.hop {S S0 : RS} (hK : S0.K = S.K) (hH : ∀ a o, ¬ Live S a → S.H a = some o → S0.H a = some o) (hl : ∀ a, ¬ Live S a → (∃ o, S.H a = some o) → ¬ Live S0 a) (hr : ∀ (i : Nat) a, S.r[i]? = some a → S0.r[i]? = some a) : ∀ {v : Val} {x : V}, Rel S v x → Rel S0 v x
  | .none, _, h => h
  | .bool _, _, h => h
  | .int _, _, h => h
  | .str _, _, h => h
  | .tup xs, x, h => by
    obtain ⟨a, vs, h1, h2, h3⟩ := h
    refine ⟨a, vs, h1, ?_, Rels.hop hK hH hl hr h3⟩
    rcases h2 with ⟨h2 | ⟨o, h2⟩, n2⟩ | h2
    · exact .inl ⟨.inl (hH a _ n2 h2), hl a n2 ⟨_, h2⟩⟩
    · exact .inl ⟨.inr ⟨o, hH a _ n2 h2⟩, hl a n2 ⟨_, h2⟩⟩
    · exact .inr (by rw [hK]; exact h2)
  | .list xs, x, h => by
    obtain ⟨a, vs, h1, ⟨h2, n2⟩, h3⟩ := h
    exact ⟨a, vs, h1, ⟨hH a _ n2 h2, hl a n2 ⟨_, h2⟩⟩, Rels.hop hK hH hl hr h3⟩
  | .dict ks vs, _, h => by
    obtain ⟨a, kvs, h1, ⟨h2, n2⟩, h3, h4⟩ := h
    exact ⟨a, kvs, h1, ⟨hH a _ n2 h2, hl a n2 ⟨_, h2⟩⟩, Rels.hop hK hH hl hr h3, Rels.hop hK hH hl hr h4⟩
  | .obj _ _ _, _, h => h.elim
  | .ref m, x, h => by
    obtain ⟨a, h1, h2⟩ := h
    exact ⟨a, hr m a h1, h2⟩
  | .fn _, _, h => h.elim
  | .cls _, _, h => h.elim
  | .ty _, _, h => h.elim
  | .scr xs, x, h => by
    obtain ⟨a, vs, h1, h2, h3⟩ := h
    refine ⟨a, vs, h1, ?_, Rels.hop hK hH hl hr h3⟩
    rcases h2 with ⟨o, h2, n2⟩ | h2
    · exact .inl ⟨o, hH a _ n2 h2, hl a n2 ⟨_, h2⟩⟩
    · exact .inr (by rw [hK]; exact h2)
theorem Rels.hop {S S0 : RS} (hK : S0.K = S.K) (hH : ∀ a o, ¬ Live S a → S.H a = some o → S0.H a = some o) (hl : ∀ a, ¬ Live S a → (∃ o, S.H a = some o) → ¬ Live S0 a) (hr : ∀ (i : Nat) a, S.r[i]? = some a → S0.r[i]? = some a) : ∀ {vs : List Val} {xs : List V}, Rels S vs xs → Rels S0 vs xs
  | [], _, h => h
  | v :: r, xs, h => by
    obtain ⟨x, t, h1, h2, h3⟩ := h
    exact ⟨x, t, h1, Rel.hop hK hH hl hr h2, Rels.hop hK hH hl hr h3⟩
end
/-- the accumulator's state -/
def RS.acc (S : RS) (D : Addr) (o : HO) : RS := { S with H := upd S.H D o, own := D :: S.own }
def RS.acc2 (S : RS) (D : Addr) (o : HO) : RS := { S with H := upd S.H D o }
theorem ORel.hop {S S0 : RS} (hK : S0.K = S.K) (hH : ∀ a o, ¬ Live S a → S.H a = some o → S0.H a = some o) (hl : ∀ a, ¬ Live S a → (∃ o, S.H a = some o) → ¬ Live S0 a) (hr : ∀ (i : Nat) a, S.r[i]? = some a → S0.r[i]? = some a) {a : Addr} {o : Obj} (ha : ∀ u, S.H a = some u → S0.H a = some u) (h : ORel S a o) : ORel S0 a o := by
  cases o with
  | dead => obtain ⟨u, h⟩ := h; exact ⟨u, ha u h⟩
  | list xs => obtain ⟨vs, h1, h2⟩ := h; exact ⟨vs, ha _ h1, Rels.hop hK hH hl hr h2⟩
  | dict _ _ => obtain ⟨vs, h1, h2, h3⟩ := h; exact ⟨vs, ha _ h1, Rels.hop hK hH hl hr h2, Rels.hop hK hH hl hr h3⟩
  | inst _ _ _ => obtain ⟨dx, fs, h1, h2, h3, h4, h5⟩ := h; exact ⟨dx, fs, by rw [hK]; exact ha _ h1, hH _ _ h3 h2, hl _ h3 ⟨_, h2⟩, h4, Rels.hop hK hH hl hr h5⟩
section
variable {S : RS} {D : Addr}
theorem acc_H (n : S.H D = none) {o : HO} : ∀ a u, ¬ Live S a → S.H a = some u → (S.acc D o).H a = some u := fun a u _ e => by
  show upd S.H D o a = _
  rw [upd_ne (ne_of_none e n)]; exact e
theorem acc_l (n : S.H D = none) {o : HO} : ∀ a, ¬ Live S a → (∃ u, S.H a = some u) → ¬ Live (S.acc D o) a := fun a nl ⟨u, e⟩ l => by
  rcases l with l | l
  · exact nl (.inl l)
  · rcases List.mem_cons.mp (show a ∈ D :: S.own from l) with z | z
    · rw [z, n] at e; cases e
    · exact nl (.inr z)
theorem rel_acc (n : S.H D = none) {o : HO} {v : Val} {x : V} (r : Rel S v x) : Rel (S.acc D o) v x := Rel.hop (S := S) (S0 := S.acc D o) rfl (acc_H n) (acc_l n) (fun _ _ h => h) r
theorem lrel_acc (n : S.H D = none) {o : HO} {ls : Loc} {σ : L2.St} (l : LRel S ls σ) : LRel (S.acc D o) ls σ := ⟨l.len, fun i v h => let ⟨x, h1, h2⟩ := l.at_ i v h; ⟨x, h1, rel_acc n h2⟩⟩
theorem good_acc (g : Good S) (n : S.H D = none) {o : HO} : Good (S.acc D o) := by
  refine ⟨g.len, g.nd, fun i u a h1 h2 => ?_, fun a m => ?_⟩
  · exact ORel.hop (S := S) (S0 := S.acc D o) rfl (acc_H n) (acc_l n) (fun _ _ h => h) (fun w e => by
      show upd S.H D o a = _
      rw [upd_ne (ne_of_none e n)]; exact e) (g.obj i u a h1 h2)
  · rcases List.mem_cons.mp (show a ∈ D :: S.own from m) with z | z
    · subst z
      refine ⟨⟨o, upd_same⟩, fun hm => ?_⟩
      obtain ⟨i, hi⟩ := List.getElem?_of_mem (show a ∈ S.r from hm)
      obtain ⟨u, e⟩ := g.hso hi
      rw [n] at e; cases e
    · obtain ⟨⟨u, e⟩, q⟩ := g.ow a z
      exact ⟨⟨u, by show upd S.H D o a = _; rw [upd_ne (ne_of_none e n)]; exact e⟩, q⟩
/-- the accumulator grows -/
theorem acc2_H (hD : D ∈ S.own) {o : HO} : ∀ a u, ¬ Live S a → S.H a = some u → (S.acc2 D o).H a = some u := fun a u nl e => by
  show upd S.H D o a = _
  rw [upd_ne (fun z => nl (.inr (by rw [z]; exact hD)))]; exact e
theorem rels_acc2 (hD : D ∈ S.own) {o : HO} {v : List Val} {x : List V} (r : Rels S v x) : Rels (S.acc2 D o) v x := Rels.hop (S := S) (S0 := S.acc2 D o) rfl (acc2_H hD) (fun _ nl _ => nl) (fun _ _ h => h) r
theorem lrel_acc2 (hD : D ∈ S.own) {o : HO} {ls : Loc} {σ : L2.St} (l : LRel S ls σ) : LRel (S.acc2 D o) ls σ := ⟨l.len, fun i v h => let ⟨x, h1, h2⟩ := l.at_ i v h; ⟨x, h1, Rel.hop (S := S) (S0 := S.acc2 D o) rfl (acc2_H hD) (fun _ nl _ => nl) (fun _ _ h => h) h2⟩⟩
theorem good_acc2 (g : Good S) (hD : D ∈ S.own) {o : HO} : Good (S.acc2 D o) := by
  refine ⟨g.len, g.nd, fun i u a h1 h2 => ?_, fun a m => ?_⟩
  · refine ORel.hop (S := S) (S0 := S.acc2 D o) rfl (acc2_H hD) (fun _ nl _ => nl) (fun _ _ h => h) (fun w e => ?_) (g.obj i u a h1 h2)
    show upd S.H D o a = _
    rw [upd_ne (fun z => (g.ow D hD).2 (by rw [← z]; exact List.mem_of_getElem? h2))]; exact e
  · obtain ⟨⟨u, e⟩, q⟩ := g.ow a m
    refine ⟨?_, q⟩
    by_cases z : a = D
    · subst z; exact ⟨o, upd_same⟩
    · exact ⟨u, by show upd S.H D o a = _; rw [upd_ne z]; exact e⟩
end
end M
namespace M
open PySem PySem.Spec PyProof.Rows L2
/-- a rest that is asked of another state -/
theorem PostG.bind2 {A B C D : Type} {R : RS → A → B → Prop} {R' : RS → C → D → Prop} {S0 S : RS} {r : Res A} {g : A → Heap → Res C} {Q : D → Hp → Prop} {Z : B → Hp → Prop} (p : PostG R' S0 (r.bind g) Q)
    (k : ∀ a b S1, Good S1 → Ext S S1 → R S1 a b → PostG R' S0 (g a S1.h) Q → Z b S1.H) : PostG R S r Z := by
  cases r with
  | ok a h =>
    intro S1 b h1 g1 e1 r1
    subst h1
    exact k a b S1 g1 e1 r1 p
  | exc _ _ => exact p
  | stuck => exact p
theorem ext_acc {S : RS} {D : Addr} {o : HO} (n : S.H D = none) : Ext S (S.acc D o) :=
  ⟨rfl, ⟨[], by simp [RS.acc]⟩, fun a u e nl => ⟨acc_H n a u nl e, acc_l n a nl ⟨u, e⟩⟩, fun _ h => List.mem_cons_of_mem _ h, fun a u _ e => by
    show upd S.H D o a = _
    rw [upd_ne (ne_of_none e n)]; exact e⟩
theorem ext_acc2 {S S' : RS} {D : Addr} {o : HO} (n : S.H D = none) (e : Ext S S') (hD : D ∈ S'.own) : Ext S (S'.acc2 D o) :=
  ⟨e.K, e.pre, fun a u h nl => let ⟨h1, n1⟩ := e.keep a u h nl; ⟨acc2_H hD a u n1 h1, n1⟩, e.sub, fun a u m h => by
    show upd S'.H D o a = _
    rw [upd_ne (ne_of_none h n)]; exact e.kow a u m h⟩
/-- the list that was made is a value -/
theorem end_frz {S S' : RS} {D : Addr} {vs : List Val} {ys : List V} {Q : VK} (g : Good S) (n : S.H D = none) (g' : Good S') (e : Ext S S') (hD : D ∈ S'.own) (hH : S'.H D = some (.lst ys)) (r : Rels S' vs ys) (p : Post S (.ok (.list vs) S'.h) Q) : Q (.ref D) S'.H := by
  have hl : ∀ a, ¬ Live S' a → (∃ o, S'.H a = some o) → ¬ Live { S' with own := S.own } a := fun a nl _ l => nl (l.elim .inl fun m => .inr (e.sub a m))
  have nD : ¬ Live { S' with own := S.own } D := fun l => by
    rcases l with ⟨i, o, h1, _, _⟩ | m
    · exact (g'.ow D hD).2 (List.mem_of_getElem? h1)
    · obtain ⟨⟨u, q⟩, _⟩ := g.ow D m
      rw [n] at q; cases q
  refine p { S' with own := S.own } (.ref D) rfl ⟨g'.len, g'.nd, fun i o a h1 h2 => ?_, fun a m => ⟨?_, (g'.ow a (e.sub a m)).2⟩⟩ ⟨e.K, e.pre, fun a o h nl => ?_, fun _ h => h, e.kow⟩ ⟨D, ys, rfl, ⟨hH, nD⟩, ?_⟩
  · exact ORel.hop (S := S') (S0 := { S' with own := S.own }) rfl (fun _ _ _ h => h) hl (fun _ _ h => h) (fun _ h => h) (g'.obj i o a h1 h2)
  · obtain ⟨⟨u, q⟩, _⟩ := g.ow a m
    exact ⟨u, e.kow a u m q⟩
  · obtain ⟨h1, n1⟩ := e.keep a o h nl
    exact ⟨h1, hl a n1 ⟨o, h1⟩⟩
  · exact Rels.hop (S := S') (S0 := { S' with own := S.own }) rfl (fun _ _ _ h => h) hl (fun _ _ h => h) r
/-- .. or a mutable object -/
theorem end_mut {S S' : RS} {D : Addr} {vs : List Val} {ys : List V} {Q : VK} (g : Good S) (n : S.H D = none) (g' : Good S') (e : Ext S S') (hD : D ∈ S'.own) (hH : S'.H D = some (.lst ys)) (r : Rels S' vs ys)
    (p : Post S (.ok (.ref S'.h.length) (S'.h ++ [.list vs])) Q) : Q (.ref D) S'.H := by
  let T : RS := { S' with r := S'.r ++ [D], h := S'.h ++ [.list vs], own := S.own }
  have lv : ∀ a, Live T a → Live S' a ∨ a = D := fun a l => by
    rcases l with ⟨i, o, h1, h2, h3⟩ | m
    · have h1' : (S'.r ++ [D])[i]? = some a := h1
      have h2' : (S'.h ++ [Obj.list vs])[i]? = some o := h2
      by_cases hi : i < S'.r.length
      · rw [List.getElem?_append_left hi] at h1'
        rw [List.getElem?_append_left (by rw [← g'.len]; exact hi)] at h2'
        exact .inl (.inl ⟨i, o, h1', h2', h3⟩)
      · rw [List.getElem?_append_right (Nat.le_of_not_lt hi)] at h1'
        cases hj : i - S'.r.length with
        | zero => rw [hj] at h1'; simp at h1'; exact .inr h1'.symm
        | succ n => rw [hj] at h1'; simp at h1'
    · exact .inl (.inr (e.sub a m))
  have hl : ∀ a, ¬ Live S' a → (∃ o, S'.H a = some o) → ¬ Live T a := fun a nl _ l => (lv a l).elim nl fun z => nl (.inr (by rw [z]; exact hD))
  have hr : ∀ (i : Nat) a, S'.r[i]? = some a → T.r[i]? = some a := fun i a h => by
    show (S'.r ++ [D])[i]? = some a
    rw [List.getElem?_append_left (List.getElem?_eq_some_iff.mp h).1]; exact h
  have hv : Rels T vs ys := Rels.hop (S := S') (S0 := T) rfl (fun _ _ _ h => h) hl hr r
  have gT : Good T := by
    refine ⟨by show (S'.r ++ [D]).length = (S'.h ++ [Obj.list vs]).length; rw [List.length_append, List.length_append, g'.len]; rfl, ?_, fun i o a h1 h2 => ?_, fun a m => ⟨?_, fun hm => ?_⟩⟩
    · show (S'.r ++ [D]).Nodup
      rw [List.nodup_append]
      refine ⟨g'.nd, by simp, fun a ha b hb => ?_⟩
      rw [List.mem_singleton.mp hb]
      rintro rfl
      exact (g'.ow _ hD).2 ha
    · have h1' : (S'.h ++ [Obj.list vs])[i]? = some o := h1
      have h2' : (S'.r ++ [D])[i]? = some a := h2
      by_cases hi : i < S'.r.length
      · rw [List.getElem?_append_left hi] at h2'
        rw [List.getElem?_append_left (by rw [← g'.len]; exact hi)] at h1'
        exact ORel.hop (S := S') (S0 := T) rfl (fun _ _ _ h => h) hl hr (fun _ h => h) (g'.obj i o a h1' h2')
      · rw [List.getElem?_append_right (Nat.le_of_not_lt hi)] at h2'
        rw [List.getElem?_append_right (by rw [← g'.len]; exact Nat.le_of_not_lt hi), ← g'.len] at h1'
        cases hj : i - S'.r.length with
        | zero =>
          rw [hj] at h1' h2'
          simp at h1' h2'
          subst h1' h2'
          exact ⟨ys, hH, hv⟩
        | succ n => rw [hj] at h1'; simp at h1'
    · obtain ⟨⟨u, q⟩, _⟩ := g.ow a m
      exact ⟨u, e.kow a u m q⟩
    · rcases List.mem_append.mp (show a ∈ S'.r ++ [D] from hm) with z | z
      · exact (g'.ow a (e.sub a m)).2 z
      · obtain ⟨⟨u, q⟩, _⟩ := g.ow a m
        rw [List.mem_singleton.mp z, n] at q; cases q
  obtain ⟨t, hp⟩ := e.pre
  refine p T (.ref D) rfl gT ⟨e.K, ⟨t ++ [D], by show S'.r ++ [D] = _; rw [hp, List.append_assoc]⟩, fun a o h nl => ?_, fun _ h => h, e.kow⟩ ⟨D, ?_, rfl⟩
  · obtain ⟨h1, n1⟩ := e.keep a o h nl
    exact ⟨h1, hl a n1 ⟨o, h1⟩⟩
  · show (S'.r ++ [D])[S'.h.length]? = _
    rw [← g'.len]; simp
theorem end_lst {S S' : RS} {D : Addr} {m : Bool} {vs : List Val} {ys : List V} {Q : VK} (g : Good S) (n : S.H D = none) (g' : Good S') (e : Ext S S') (hD : D ∈ S'.own) (hH : S'.H D = some (.lst ys)) (r : Rels S' vs ys)
    (p : Post S (okList m vs S'.h) Q) : Q (.ref D) S'.H := by
  obtain ⟨c, p⟩ := ite_of p
  cases m with
  | true => exact end_mut g n g' e hD hH r p
  | false => exact end_frz g n g' e hD hH r p
/-- what the turns make has room -/
theorem turns_app {pin : Pin} {step : Val → Heap → Res (List Val)} {m : Bool} {Q : VK} {S0 : RS} : ∀ {l : List Val} {h : Heap} {vs : List Val}, Post S0 ((turns pin step l h).bind fun ws h => okList m (vs ++ ws) h) Q → vs.length ≤ SL
  | [], h, vs, p => by
    unfold turns at p
    split at p
    · have p : Post S0 (okList m (vs ++ []) h) Q := p
      rw [List.append_nil] at p
      exact (ite_of p).1
    · exact p.elim
  | v :: r, h, vs, p => by
    unfold turns at p
    split at p
    · cases e : step v h with
      | ok a h1 =>
        rw [e] at p
        simp only [bind_ok] at p
        have p : Post S0 ((turns pin step r h1).bind fun ws h => okList m ((vs ++ a) ++ ws) h) Q := by
          cases e2 : turns pin step r h1 with
          | ok b h2 => rw [e2] at p; simp only [bind_ok] at p ⊢; rw [List.append_assoc]; exact p
          | exc _ _ => rw [e2] at p; exact p
          | stuck => rw [e2] at p; exact p
        have q := turns_app p
        rw [List.length_append] at q
        omega
      | exc _ _ => rw [e] at p; exact p.elim
      | stuck => rw [e] at p; exact p.elim
    · exact p.elim
section
variable {X : Cx}
def stepC (t : Tg) (own : List Nat) (fc : Loc → Heap → Res Bool) (fe : Loc → Heap → Res Val) (ls : Loc) : Val → Heap → Res (List Val) := fun v h => match setTg t v (killL own ls) with
  | some ls => (fc ls h).bind fun b h => if b then (fe ls h).bind fun v h => .ok [v] h else .ok [] h
  | none => .stuck
theorem lc_M {fi : Loc → Heap → Res (List Val × Pin)} {fc : Loc → Heap → Res Bool} {fe : Loc → Heap → Res Val} {t : Tg} {g : TG} {own : List Nat} {m : Bool} {σ : L2.St} {H : Hp} {Q : VK} (hg : GOk X.K t g) (ho : ∀ i ∈ t.slots, i ∈ own)
    (q : tM X.K (fun ls h => (fi ls h).bind fun p h => (turns p.2 (stepC t own fc fe ls) p.1 h).bind fun vs h => okList m vs h) σ H Q) : tLc (tI X.K fi) g (tB X.K fc) (tM X.K fe) own σ H Q := by
  refine tM_bind (g := fun ls p h => (turns p.2 (stepC t own fc fe ls) p.1 h).bind fun vs h => okList m vs h) q fun p J S1 ls hK g1 l1 hJ p1 => ?_
  obtain ⟨items, pin⟩ := p
  intro D hD
  refine ⟨fun i m' H => ∃ (S' : RS) (vs : List Val) (ys : List V), S'.H = H ∧ Good S' ∧ Ext S1 S' ∧ D ∈ S'.own ∧ S'.H D = some (.lst ys) ∧ Rels S' vs ys ∧ m' = items.length - i ∧ i ≤ items.length ∧
    Post S1 ((turns pin (stepC t own fc fe ls) (items.drop i) S'.h).bind fun ws h => okList m (vs ++ ws) h) Q, ⟨_, S1.acc D (.lst []), [], [], rfl, good_acc g1 hD, ext_acc hD, List.mem_cons_self .., upd_same, rfl, rfl, Nat.zero_le _, p1⟩, ?_⟩
  rintro i m' H ⟨S', vs, ys, rfl, g', e', hD', hH, rv, rfl, hi, p⟩
  have hz := turns_app p
  rcases Nat.lt_or_ge i items.length with hlt | hge
  · refine .inr ?_
    have ed : items.drop i = items[i] :: items.drop (i + 1) := List.drop_eq_getElem_cons hlt
    have ei : items[i]? = some items[i] := List.getElem?_eq_getElem hlt
    generalize items[i] = v at ed ei
    rw [ed] at p
    unfold turns at p
    by_cases hp : pinned S'.h pin = true
    · rw [if_pos hp] at p
      obtain ⟨go, yl⟩ := (hJ S' e'.w g' hp i).1 v ei
      refine ⟨go, fun H' => ∃ (S' : RS) (vs : List Val) (ys : List V), S'.H = H' ∧ Good S' ∧ Ext S1 S' ∧ D ∈ S'.own ∧ S'.H D = some (.lst ys) ∧ Rels S' vs ys ∧
        Post S1 ((turns pin (stepC t own fc fe ls) (items.drop (i + 1)) S'.h).bind fun ws h => okList m (vs ++ ws) h) Q, fun H' ⟨T, us, zs, a1, a2, a3, a4, a5, a6, a7⟩ => ⟨_, by omega, T, us, zs, a1, a2, a3, a4, a5, a6, rfl, hlt, a7⟩, fun x H' y => ?_⟩
      obtain ⟨S3, rfl, h3, g3, e3, r3⟩ := yl x H' y
      rw [← h3] at p
      have e13 := e'.trans e3
      cases es : setTg t v (killL own ls) with
      | none =>
        unfold stepC at p
        rw [es] at p
        exact p.elim
      | some ls' =>
        have p : Post S1 ((fc ls' S3.h).bind fun b h => (if b then (fe ls' h).bind fun v h => .ok [v] h else .ok [] h : Res (List Val)).bind fun a h => ((turns pin (stepC t own fc fe ls) (items.drop (i + 1)) h).bind fun b h => .ok (a ++ b) h).bind fun ws h => okList m (vs ++ ws) h) Q := by
          have e0 : stepC t own fc fe ls v S3.h = (fc ls' S3.h).bind fun b h => if b then (fe ls' h).bind fun v h => .ok [v] h else .ok [] h := by
            unfold stepC
            rw [es]
          rw [e0] at p
          cases ec : fc ls' S3.h with
          | ok b h =>
            rw [ec] at p
            simp only [bind_ok] at p ⊢
            cases b with
            | true =>
              simp only [if_true] at p ⊢
              cases ee : fe ls' h with
              | ok w h => rw [ee] at p; exact p
              | exc _ _ => rw [ee] at p; exact p
              | stuck => rw [ee] at p; exact p
            | false => exact p
          | exc _ _ => rw [ec] at p; exact p
          | stuck => rw [ec] at p; exact p
        refine hg S3 v x (killL own ls) ls' (wipe σ own) _ (e13.K.trans hK) g3 ((l1.ext e13).wiped own) r3 es fun σ2 l2 hw => ⟨by rw [hw own ho]; exact (by
          apply List.ext_getElem?
          intro j
          by_cases hj : j ∈ own
          · rw [wipe_at hj, wipe_at hj, wipe_length]
          · rw [wipe_get hj]), ?_⟩
        refine ⟨S3, ls', e13.K.trans hK, rfl, g3, l2, ?_⟩
        refine PostG.bind2 p fun b c S4 g4 e4 rb p4 => ?_
        cases rb
        have e14 := e13.trans e4
        have hD4 : D ∈ S4.own := e4.sub D (e3.sub D hD')
        have hH4 : S4.H D = some (.lst ys) := e4.kow D _ (e3.sub D hD') (e3.kow D _ hD' hH)
        have rv4 := (rv.ext e3).ext e4
        have rest : ∀ {T : RS} {a : List Val}, Post S1 (((turns pin (stepC t own fc fe ls) (items.drop (i + 1)) T.h).bind fun b h => .ok (a ++ b) h).bind fun ws h => okList m (vs ++ ws) h) Q → Post S1 ((turns pin (stepC t own fc fe ls) (items.drop (i + 1)) T.h).bind fun ws h => okList m ((vs ++ a) ++ ws) h) Q := fun {T a} p => by
          cases et : turns pin (stepC t own fc fe ls) (items.drop (i + 1)) T.h with
          | ok b h => rw [et] at p; simp only [bind_ok] at p ⊢; rw [List.append_assoc]; exact p
          | exc _ _ => rw [et] at p; exact p
          | stuck => rw [et] at p; exact p
        cases b with
        | false =>
          simp only [Bool.false_eq_true, if_false, bind_ok] at p4 ⊢
          have p5 := rest p4
          rw [List.append_nil] at p5
          exact ⟨S4, vs, ys, rfl, g4, e14, hD4, hH4, rv4, p5⟩
        | true =>
          simp only [if_true] at p4 ⊢
          refine ⟨S4, ls', e14.K.trans hK, rfl, g4, l2.ext e4, ?_⟩
          have p4 : Post S1 ((fe ls' S4.h).bind fun w h => ((turns pin (stepC t own fc fe ls) (items.drop (i + 1)) h).bind fun b h => .ok ([w] ++ b) h).bind fun ws h => okList m (vs ++ ws) h) Q := by
            cases ee : fe ls' S4.h with
            | ok w h => rw [ee] at p4; exact p4
            | exc _ _ => rw [ee] at p4; exact p4
            | stuck => rw [ee] at p4; exact p4
          refine PostG.bind2 p4 fun w y S5 g5 e5 ry p5 => ?_
          have hD5 : D ∈ S5.own := e5.sub D hD4
          have hH5 : S5.H D = some (.lst ys) := e5.kow D _ hD4 hH4
          have rv5 := rv4.ext e5
          have p6 := rest p5
          have hz2 := turns_app p6
          refine ⟨ys, hH5, ?_, S5.acc2 D (.lst (ys ++ [y])), vs ++ [w], ys ++ [y], rfl, good_acc2 g5 hD5, ext_acc2 hD (e14.trans e5) hD5, hD5, upd_same, rels_acc2 hD5 (rv5.app (.one ry)), p6⟩
          rw [← rv5.len]
          rw [List.length_append] at hz2
          exact lt_sl (by show vs.length < SL; simp at hz2; omega)
    · rw [if_neg hp] at p
      exact p.elim
  · refine .inl ?_
    have e0 : i = items.length := Nat.le_antisymm hi hge
    rw [List.drop_eq_nil_of_le hge] at p
    unfold turns at p
    by_cases hp : pinned S'.h pin = true
    · rw [if_pos hp] at p
      simp only [bind_ok, List.append_nil] at p
      exact ⟨(hJ S' e'.w g' hp i).2 (List.getElem?_eq_none hge), end_lst g1 hD g' e' hD' hH rv p⟩
    · rw [if_neg hp] at p
      exact p.elim
end
end M
namespace M
open PySem PySem.Spec PyProof.Rows L2
/-- what is wanted of a statement's outcome -/
def PF (S : RS) (r : Res M.Flow) (D : Ends) : Prop := match r with
  | .ok (.nx ls) h => ∀ (S' : RS) (σ : L2.St), S'.h = h → Good S' → Ext S S' → LRel S' ls σ → D.nx σ S'.H
  | .ok (.ret v) h => ∀ (S' : RS) (x : V), S'.h = h → Good S' → Ext S S' → Rel S' v x → D.rt x S'.H
  | .ok (.brk ls) h => ∀ (S' : RS) (σ : L2.St), S'.h = h → Good S' → Ext S S' → LRel S' ls σ → D.bk σ S'.H
  | .exc _ _ => False
  | .stuck => False
theorem PF.ext {S S' : RS} {r : Res M.Flow} {D : Ends} (p : PF S r D) (e : Ext S S') : PF S' r D := by
  cases r with
  | ok f h =>
    cases f with
    | nx ls => exact fun T σ h2 g2 e2 l2 => p T σ h2 g2 (e.trans e2) l2
    | ret v => exact fun T x h2 g2 e2 l2 => p T x h2 g2 (e.trans e2) l2
    | brk ls => exact fun T σ h2 g2 e2 l2 => p T σ h2 g2 (e.trans e2) l2
  | exc _ _ => exact p
  | stuck => exact p
def tS (K : PySem.W.Frag) (f : Loc → Heap → Res M.Flow) : L2.TS := fun D σ H => ∃ (S : RS) (ls : Loc), S.K = K ∧ S.H = H ∧ Good S ∧ LRel S ls σ ∧ PF S (f ls S.h) D
theorem PF.bind {A B : Type} {R : RS → A → B → Prop} {S0 S : RS} {r : Res A} {g : A → Heap → Res M.Flow} {D : Ends} {Z : B → Hp → Prop} (p : PF S0 (r.bind g) D)
    (k : ∀ a b S1, Good S1 → Ext S S1 → R S1 a b → PF S0 (g a S1.h) D → Z b S1.H) : PostG R S r Z := by
  cases r with
  | ok a h =>
    intro S1 b h1 g1 e1 r1
    subst h1
    exact k a b S1 g1 e1 r1 p
  | exc _ _ => exact p
  | stuck => exact p
theorem tS_bind {A B : Type} {K : PySem.W.Frag} {R : RS → A → B → Prop} {f : Loc → Heap → Res A} {g : Loc → A → Heap → Res M.Flow} {σ : L2.St} {H : Hp} {D : Ends} {Z : B → Hp → Prop}
    (q : tS K (fun ls h => (f ls h).bind fun v h => g ls v h) D σ H) (k : ∀ v x S ls, S.K = K → Good S → LRel S ls σ → R S v x → PF S (g ls v S.h) D → Z x S.H) : tG K R f σ H Z := by
  obtain ⟨S, ls, hK, hH, g0, l0, p⟩ := q
  subst hH
  exact ⟨S, ls, hK, rfl, g0, l0, PF.bind p fun a b S1 g1 e1 r1 p1 => k a b S1 ls (e1.K.trans hK) g1 (l0.ext e1) r1 (p1.ext e1)⟩
section
variable {X : Cx} {c : Ck} {k : Nat} {cl : CallFn} {e : Expr} {pos : Pos} {f : Loc → Heap → Res Val} {fc : Loc → Heap → Res Bool} {fa fb : Loc → Heap → Res M.Flow} {D : Ends} {σ : L2.St} {H : Hp}
theorem tDrop_M (q : tS X.K (fun ls h => (f ls h).bind fun _ h => .ok (.nx ls) h) D σ H) : tDrop (tM X.K f) D σ H :=
  tS_bind (g := fun ls _ h => .ok (.nx ls) h) q fun v x S ls hK g l r p => p S σ rfl g .refl l
theorem tRet_M (q : tS X.K (fun ls h => (f ls h).bind fun v h => .ok (.ret v) h) D σ H) : tRet (tM X.K f) D σ H :=
  tS_bind (g := fun ls v h => .ok (.ret v) h) q fun v x S ls hK g l r p => p S x rfl g .refl r
theorem tIfS_M (q : tS X.K (fun ls h => (fc ls h).bind fun b h => if b then fa ls h else fb ls h) D σ H) : tIfS (tB X.K fc) (tS X.K fa) (tS X.K fb) D σ H :=
  tS_bind (g := fun ls b h => if b then fa ls h else fb ls h) q fun v x S ls hK g l r p => by
    cases r
    cases v with
    | true => exact ⟨S, ls, hK, rfl, g, l, p⟩
    | false => exact ⟨S, ls, hK, rfl, g, l, p⟩
def seqF (f : M.Flow) (h : Heap) (g : Loc → Heap → Res M.Flow) : Res M.Flow := match f with
  | .nx ls => g ls h
  | f => .ok f h
theorem tSeq_M (q : tS X.K (fun ls h => (fa ls h).bind fun f h => seqF f h fb) D σ H) : tSeq (tS X.K fa) (tS X.K fb) D σ H := by
  obtain ⟨S, ls, hK, hH, g0, l0, p⟩ := q
  subst hH
  refine ⟨S, ls, hK, rfl, g0, l0, ?_⟩
  have p : PF S ((fa ls S.h).bind fun f h => seqF f h fb) D := p
  cases e : fa ls S.h with
  | ok f h =>
    rw [e] at p
    cases f with
    | nx ls' => exact fun T τ h2 g2 e2 l2 => ⟨T, ls', e2.K.trans hK, rfl, g2, l2, by rw [h2]; exact PF.ext p e2⟩
    | ret v => exact p
    | brk ls' => exact p
  | exc _ _ => rw [e] at p; exact p
  | stuck => rw [e] at p; exact p
theorem tNext_M (q : tS X.K (fun ls h => .ok (.nx ls) h) D σ H) : tNext D σ H := by
  obtain ⟨S, ls, hK, hH, g0, l0, p⟩ := q
  subst hH
  exact p S σ rfl g0 .refl l0
theorem tBreak_M (q : tS X.K (fun ls h => .ok (.brk ls) h) D σ H) : tBreak D σ H := by
  obtain ⟨S, ls, hK, hH, g0, l0, p⟩ := q
  subst hH
  exact p S σ rfl g0 .refl l0
/-- slots forgotten: nothing is run -/
theorem tKill_M {is : List Nat} {t : L2.TS} (ht : ∀ D σ H, tS X.K fb D σ H → t D σ H) (q : tS X.K (fun ls h => fb (killL is ls) h) D σ H) : t D σ H := by
  obtain ⟨S, ls, hK, hH, g0, l0, p⟩ := q
  exact ht D σ H ⟨S, killL is ls, hK, hH, g0, l0.kill is, p⟩
/-- a store under a target of names -/
theorem tAsg_M {t : Tg} {g : TG} (hg : GOk X.K t g) (q : tS X.K (fun ls h => (f ls h).bind fun v h => (match setTg t v ls with
    | some ls => .ok (.nx ls) h
    | none => .stuck : Res M.Flow)) D σ H) : tAsg (tM X.K f) g D σ H :=
  tS_bind (g := fun ls v h => (match setTg t v ls with
    | some ls => .ok (.nx ls) h
    | none => .stuck : Res M.Flow)) q fun v x S ls hK g1 l r p => by
    cases es : setTg t v ls with
    | none => rw [es] at p; exact p.elim
    | some ls' =>
      rw [es] at p
      exact hg S v x ls ls' σ _ hK g1 l r es fun σ' l' _ => p S σ' rfl g1 .refl l'
/-- a[i] = e -/
theorem tSub_M {fo fi : Loc → Heap → Res Val} (q : tS X.K (fun ls h => (f ls h).bind fun v h => (fo ls h).bind fun x h => (fi ls h).bind fun y h => ref1S x h fun n => int1S y fun j => lst1S h n fun xs => (match ixN xs.length j with
    | some k => .ok (.nx ls) (h.set n (.list (xs.set k v)))
    | none => .stuck : Res M.Flow)) D σ H) : tAsg (tM X.K f) (gSub (tM X.K fo) (tM X.K fi) rSetL) D σ H := by
  refine tS_bind (g := fun ls v h => (fo ls h).bind fun x h => (fi ls h).bind fun y h => ref1S x h fun n => int1S y fun j => lst1S h n fun xs => (match ixN xs.length j with
    | some k => .ok (.nx ls) (h.set n (.list (xs.set k v)))
    | none => .stuck : Res M.Flow)) q fun v x S ls hK g l rv p => ?_
  refine ⟨S, ls, hK, rfl, g, l, PF.bind p fun o ov S2 g2 e2 ro p2 => ?_⟩
  refine ⟨S2, ls, e2.K.trans hK, rfl, g2, l.ext e2, PF.bind p2 fun i iv S3 g3 e3 ri p3 => ?_⟩
  cases o with
  | ref n =>
    cases i with
    | int j =>
      cases ri
      unfold ref1S int1S lst1S at p3
      simp only at p3
      cases e5 : S3.h[n]? with
      | none => rw [e5] at p3; exact p3.elim
      | some ob =>
        rw [e5] at p3
        cases ob with
        | list xs =>
          simp only at p3
          cases e6 : ixN xs.length j with
          | none => rw [e6] at p3; exact p3.elim
          | some k =>
            rw [e6] at p3
            obtain ⟨a, ys, rfl, ha, hH, rz⟩ := ref_lst g3 (ro.ext e3) e5
            have rv3 := (rv.ext e2).ext e3
            have ex : Ext S3 (S3.mut n a (.lst (ys.set k x)) (.list (xs.set k v))) := ext_mut g3 ha e5 (fun z => nomatch z)
            refine ⟨a, ys, j, k, rfl, rfl, hH, by rw [← rz.len]; exact e6, ?_⟩
            exact p3 (S3.mut n a (.lst (ys.set k x)) (.list (xs.set k v))) σ rfl (good_mut g3 ha e5 (fun z => nomatch z) ⟨_, upd_same, (rz.set rv3 k).ext ex⟩) ((e2.trans e3).trans ex) (((l.ext e2).ext e3).ext ex)
        | _ => exact p3.elim
    | _ => exact p3.elim
  | _ => exact p3.elim
/-! ### loops -/
def stepF (t : Tg) (fb : Loc → Heap → Res M.Flow) : Val → Loc → Heap → Res M.Flow := fun v ls h => match setTg t v ls with
  | some ls => fb ls h
  | none => .stuck
theorem tFor_M {fi : Loc → Heap → Res (List Val × Pin)} {t : Tg} {g : TG} (hg : GOk X.K t g) (q : tS X.K (fun ls h => (fi ls h).bind fun p h => forL p.2 (stepF t fb) p.1 ls h) D σ H) : tFor (tI X.K fi) g (tS X.K fb) D σ H := by
  refine tS_bind (g := fun ls p h => forL p.2 (stepF t fb) p.1 ls h) q fun p J S1 ls hK g1 l1 hJ p1 => ?_
  obtain ⟨items, pin⟩ := p
  refine ⟨fun i m' τ H => ∃ (S' : RS) (ls' : Loc), S'.H = H ∧ Good S' ∧ Ext S1 S' ∧ LRel S' ls' τ ∧ m' = items.length - i ∧ i ≤ items.length ∧ PF S1 (forL pin (stepF t fb) (items.drop i) ls' S'.h) D, ⟨_, S1, ls, rfl, g1, .refl, l1, rfl, Nat.zero_le _, p1⟩, ?_⟩
  rintro i m' τ H ⟨S', ls', rfl, g', e', l', rfl, hi, p⟩
  rcases Nat.lt_or_ge i items.length with hlt | hge
  · refine .inr ?_
    have ed : items.drop i = items[i] :: items.drop (i + 1) := List.drop_eq_getElem_cons hlt
    have ei : items[i]? = some items[i] := List.getElem?_eq_getElem hlt
    generalize items[i] = v at ed ei
    rw [ed] at p
    unfold forL at p
    by_cases hp : pinned S'.h pin = true
    · rw [if_pos hp] at p
      obtain ⟨go, yl⟩ := (hJ S' e'.w g' hp i).1 v ei
      refine ⟨go, fun τ H' => ∃ (S' : RS) (ls' : Loc), S'.H = H' ∧ Good S' ∧ Ext S1 S' ∧ LRel S' ls' τ ∧ PF S1 (forL pin (stepF t fb) (items.drop (i + 1)) ls' S'.h) D, fun τ' H' ⟨T, us, a1, a2, a3, a4, a5⟩ => ⟨_, by omega, T, us, a1, a2, a3, a4, rfl, hlt, a5⟩, fun x H' y => ?_⟩
      obtain ⟨S3, rfl, h3, g3, e3, r3⟩ := yl x H' y
      rw [← h3] at p
      have e13 := e'.trans e3
      cases es : setTg t v ls' with
      | none =>
        unfold stepF at p
        rw [es] at p
        exact p.elim
      | some ls2 =>
        refine hg S3 v x ls' ls2 τ _ (e13.K.trans hK) g3 (l'.ext e3) r3 es fun σ2 l2 _ => ?_
        refine ⟨S3, ls2, e13.K.trans hK, rfl, g3, l2, ?_⟩
        have e0 : stepF t fb v ls' S3.h = fb ls2 S3.h := by
          unfold stepF
          rw [es]
        rw [e0] at p
        cases eb : fb ls2 S3.h with
        | ok f h =>
          rw [eb] at p
          cases f with
          | nx ls3 => exact fun T τ' h2 g2 e2 l2 => ⟨T, ls3, rfl, g2, e13.trans e2, l2, by rw [h2]; exact p⟩
          | ret w => exact fun T y h2 g2 e2 l2 => p T y h2 g2 (e13.trans e2) l2
          | brk ls3 => exact fun T τ' h2 g2 e2 l2 => p T τ' h2 g2 (e13.trans e2) l2
        | exc _ _ => rw [eb] at p; exact p
        | stuck => rw [eb] at p; exact p
    · rw [if_neg hp] at p
      exact p.elim
  · refine .inl ?_
    rw [List.drop_eq_nil_of_le hge] at p
    unfold forL at p
    by_cases hp : pinned S'.h pin = true
    · rw [if_pos hp] at p
      exact ⟨(hJ S' e'.w g' hp i).2 (List.getElem?_eq_none hge), p S' τ rfl g' e' l'⟩
    · rw [if_neg hp] at p
      exact p.elim
theorem tWhile_M (q : tS X.K (fun ls h => whL fc fb WL ls h) D σ H) : tWhile (tB X.K fc) (tS X.K fb) D σ H := by
  obtain ⟨S1, ls, hK, hH, g1, l1, p1⟩ := q
  subst hH
  refine ⟨fun m τ H => ∃ (S' : RS) (ls' : Loc), S'.H = H ∧ Good S' ∧ Ext S1 S' ∧ LRel S' ls' τ ∧ PF S1 (whL fc fb m ls' S'.h) D, ⟨WL, S1, ls, rfl, g1, .refl, l1, p1⟩, ?_⟩
  rintro m τ H ⟨S', ls', rfl, g', e', l', p⟩
  cases m with
  | zero => exact p.elim
  | succ m =>
    have p : PF S1 ((fc ls' S'.h).bind fun b h => (if b then (fb ls' h).bind fun f h => (match f with
      | .nx ls => whL fc fb m ls h
      | .ret v => .ok (.ret v) h
      | .brk ls => .ok (.nx ls) h) else .ok (.nx ls') h : Res M.Flow)) D := p
    refine ⟨S', ls', e'.K.trans hK, rfl, g', l', PF.bind p fun b d S2 g2 e2 rb p2 => ?_⟩
    cases rb
    have e12 := e'.trans e2
    cases b with
    | false => exact p2 S2 τ rfl g2 e12 (l'.ext e2)
    | true =>
      refine ⟨fun τ' H' => ∃ (S' : RS) (ls' : Loc), S'.H = H' ∧ Good S' ∧ Ext S1 S' ∧ LRel S' ls' τ' ∧ PF S1 (whL fc fb m ls' S'.h) D, fun τ' H' n => ⟨m, Nat.lt_succ_self m, n⟩, S2, ls', e12.K.trans hK, rfl, g2, l'.ext e2, ?_⟩
      simp only [if_true] at p2
      cases eb : fb ls' S2.h with
      | ok f h =>
        rw [eb] at p2
        cases f with
        | nx ls3 => exact fun T τ' h2 g2 e2 l2 => ⟨T, ls3, rfl, g2, e12.trans e2, l2, by rw [h2]; exact p2⟩
        | ret w => exact fun T y h2 g2 e2 l2 => p2 T y h2 g2 (e12.trans e2) l2
        | brk ls3 => exact fun T τ' h2 g2 e2 l2 => p2 T τ' h2 g2 (e12.trans e2) l2
      | exc _ _ => rw [eb] at p2; exact p2
      | stuck => rw [eb] at p2; exact p2
end
end M
namespace M
open PySem PySem.Spec PyProof.Rows L2
/-! ### min, sorted in small -/
mutual
theorem toPy_inj : ∀ {v w : Val}, v.flat = true → w.flat = true → toPy v = toPy w → v = w
  | .none, w, _, q, e => by cases w <;> first | rfl | (cases q; done) | (simp [toPy] at e; done)
  | .bool b, w, _, q, e => by cases w <;> first | (cases q; done) | (simp [toPy] at e; done) | (simp [toPy] at e; rw [e])
  | .int i, w, _, q, e => by cases w <;> first | (cases q; done) | (simp [toPy] at e; done) | (simp [toPy] at e; rw [e])
  | .str s, w, _, q, e => by
    cases w with
    | str t => rw [toS_inj (show toS s = toS t from by simpa [toPy] using e)]
    | _ => first | (cases q; done) | (simp [toPy] at e; done)
  | .tup xs, w, p, q, e => by
    cases w with
    | tup ys => rw [toPys_inj p q (show toPys xs = toPys ys from by simpa [toPy] using e)]
    | _ => first | (cases q; done) | (simp [toPy] at e; done)
  | .list xs, w, p, q, e => by
    cases w with
    | list ys => rw [toPys_inj p q (show toPys xs = toPys ys from by simpa [toPy] using e)]
    | _ => first | (cases q; done) | (simp [toPy] at e; done)
  | .dict _ _, _, p, _, _ => by cases p
  | .obj _ _ _, _, p, _, _ => by cases p
  | .ref _, _, p, _, _ => by cases p
  | .fn _, _, p, _, _ => by cases p
  | .cls _, _, p, _, _ => by cases p
  | .ty _, _, p, _, _ => by cases p
  | .scr _, _, p, _, _ => by cases p
theorem toPys_inj : ∀ {v w : List Val}, Val.flats v = true → Val.flats w = true → toPys v = toPys w → v = w
  | [], w, _, _, e => by cases w with
    | nil => rfl
    | cons _ _ => simp [toPys] at e
  | v :: r, w, p, q, e => by
    cases w with
    | nil => simp [toPys] at e
    | cons u t =>
      have p' := Bool.and_eq_true_iff.mp p
      have q' := Bool.and_eq_true_iff.mp q
      have e' := List.cons.inj (show toPy v :: toPys r = toPy u :: toPys t from e)
      rw [toPy_inj p'.1 q'.1 e'.1, toPys_inj p'.2 q'.2 e'.2]
end
theorem toPys_map : ∀ vs : List Val, toPys vs = vs.map toPy
  | [] => rfl
  | v :: r => by show toPy v :: toPys r = _; rw [toPys_map r]; rfl
theorem flats_mem : ∀ {vs : List Val}, Val.flats vs = true → ∀ v ∈ vs, v.flat = true
  | [], _, v, h => by cases h
  | w :: r, q, v, h => by
    have q' := Bool.and_eq_true_iff.mp q
    rcases List.mem_cons.mp h with rfl | h
    · exact q'.1
    · exact flats_mem q'.2 v h
theorem minV_mem (x : Val) : ∀ r : List Val, minV x r ∈ x :: r := by
  intro r
  unfold minV
  induction r generalizing x with
  | nil => simp
  | cons e r ih =>
    rw [List.foldl_cons]
    rcases List.mem_cons.mp (ih (if ltD e x then e else x)) with h | h
    · rw [h]; split <;> simp
    · exact List.mem_cons_of_mem _ (List.mem_cons_of_mem _ h)
theorem minV_py (x : Val) : ∀ r : List Val, toPy (minV x r) = PySem.W.minD (toPy x) (r.map toPy) := by
  intro r
  unfold minV PySem.W.minD
  induction r generalizing x with
  | nil => rfl
  | cons e r ih =>
    rw [List.foldl_cons, List.map_cons, List.foldl_cons, ih]
    congr 1
    unfold ltD
    split <;> rfl
theorem alikes_py {xs : List Val} (h : alikes xs = true) : ∀ d ∈ xs.map toPy, ∀ d' ∈ xs.map toPy, PySem.W.alike d d' = true := by
  intro d hd d' hd'
  obtain ⟨a, ha, rfl⟩ := List.mem_map.mp hd
  obtain ⟨b, hb, rfl⟩ := List.mem_map.mp hd'
  exact (List.all_eq_true.mp ((List.all_eq_true.mp h) a ha)) b hb
theorem cmpOk_parts {xs : List Val} (h : cmpOk xs = true) : Val.flats xs = true ∧ PySem.W.AlikeAll (xs.map toPy) ∧ PyData.depthAll (xs.map toPy) ≤ 64 := by
  unfold cmpOk at h
  simp only [Bool.and_eq_true, decide_eq_true_eq, List.all_eq_true] at h
  obtain ⟨⟨⟨h1, h2⟩, h3⟩, h4⟩ := h
  refine ⟨h1, ⟨alikes_py h3, fun d hd e => ?_⟩, ?_⟩
  · obtain ⟨a, ha, rfl⟩ := List.mem_map.mp hd
    have q := h4 a ha
    cases a with
    | none => cases q
    | obj _ _ _ => have := flats_mem h1 _ ha; cases this
    | ref _ => have := flats_mem h1 _ ha; cases this
    | fn _ => have := flats_mem h1 _ ha; cases this
    | cls _ => have := flats_mem h1 _ ha; cases this
    | ty _ => have := flats_mem h1 _ ha; cases this
    | scr _ => have := flats_mem h1 _ ha; cases this
    | dict _ _ => have := flats_mem h1 _ ha; cases this
    | _ => simp [toPy] at e
  · rw [← toPys_map]; exact Nat.le_trans (deeps_py xs) h2
section
variable {X : Cx}
theorem rels_item {S : RS} {vs : List Val} {xs : List V} {i : Nat} {y : V} (r : Rels S vs xs) (h : xs[i]? = some y) : ∃ w, vs[i]? = some w ∧ Rel S w y := by
  have hl := r.len
  have hi := (List.getElem?_eq_some_iff.mp h).1
  have e : vs[i]? = some vs[i] := List.getElem?_eq_getElem (by omega)
  obtain ⟨z, e1, e2⟩ := r.get e
  rw [h] at e1
  cases e1
  exact ⟨_, e, e2⟩
theorem min_pick {S : RS} (g : Good S) {x : Val} {r : List Val} {ys : List V} {Q : VK} (c : Val.flats (x :: r) = true) (rs : Rels S (x :: r) ys) (p : Post S (.ok (minV x r) S.h) Q) (i : Nat) (y : V) (hy : ys[i]? = some y) (hd : ((x :: r).map toPy)[i]? = some (PySem.W.minD (toPy x) (r.map toPy))) : Q y S.H := by
  obtain ⟨w, e1, e2⟩ := rels_item rs hy
  rw [List.getElem?_map, e1] at hd
  have hd : toPy w = PySem.W.minD (toPy x) (r.map toPy) := Option.some.inj hd
  rw [← minV_py] at hd
  have e3 := toPy_inj (flats_mem c _ (List.mem_of_getElem? e1)) (flats_mem c _ (minV_mem x r)) hd
  subst e3
  exact old_val g e2 p
theorem pr_minD : PRc X .minD (rMinD X.K) := fun S vs xs Q hK g r p => by
  obtain ⟨v, x, rfl, rfl, rv⟩ := one_of r (fun _ _ _ => rfl) rfl p
  obtain ⟨zs, e, p⟩ := seq1_of (f := fun xs => match xs with
    | [] => .stuck
    | x :: r => if cmpOk (x :: r) then .ok (minV x r) S.h else .stuck) p
  cases zs with
  | nil => exact p.elim
  | cons z zs =>
    obtain ⟨c, p⟩ := ite_of p
    obtain ⟨c1, c2, c3⟩ := cmpOk_parts c
    obtain ⟨a, ys, rfl, h, r⟩ := seq_rel g rv e
    have d := dps_of c1 r
    rw [toPys_map, hK] at d
    exact ⟨a, ys, _, _, rfl, h.elim (fun h => .inl (.inl (.inl h))) (fun h => .inr (by rw [← hK]; exact h)), d, c2, c3, min_pick g c1 r p⟩
theorem one2_of {S : RS} {vs ws : List Val} {xs ys : List V} {p : P} {Q : VK} (r : Rels S vs xs) (r' : Rels S ws ys) (hv : vs.length = 1) (hw : ws.length = 1) : ∃ v w x y, vs = [v] ∧ ws = [w] ∧ xs = [x] ∧ ys = [y] ∧ Rel S v x ∧ Rel S w y := by
  match vs, ws, hv, hw with
  | [v], [w], _, _ =>
    obtain ⟨x, t, rfl, h1, e⟩ := r
    cases e
    obtain ⟨y, t, rfl, h2, e⟩ := r'
    cases e
    exact ⟨v, w, x, y, rfl, rfl, rfl, rfl, h1, h2⟩
theorem pr_minOr {S : RS} {v d : Val} {x z : V} {Q : VK} (hK : S.K = X.K) (g : Good S) (rv : Rel S v x) (rd : Rel S d z) (p : Post S (evP .minOr [v, d] S.h) Q) : rMinO X.K [x] [z] S.H Q := by
  obtain ⟨zs, e, p⟩ := seq1_of (f := fun xs => match xs with
    | [] => .ok d S.h
    | x :: r => if cmpOk (x :: r) then .ok (minV x r) S.h else .stuck) p
  obtain ⟨a, ys, rfl, h, r⟩ := seq_rel g rv e
  have hs : SqL X.K S.H a ys ∨ SqT X.K S.H a ys := h.elim (fun h => .inl (.inl (.inl h))) (fun h => .inr (by rw [← hK]; exact h))
  cases zs with
  | nil =>
    have e : ys = [] := List.length_eq_zero_iff.mp r.len.symm
    subst e
    exact ⟨a, [], [], z, rfl, rfl, hs, .nil, ⟨fun x hx => (by cases hx), fun x hx => (by cases hx)⟩, Nat.zero_le _, fun _ => old_val g rd p, fun _ _ e => (by cases e)⟩
  | cons u zs =>
    obtain ⟨c, p⟩ := ite_of p
    obtain ⟨c1, c2, c3⟩ := cmpOk_parts c
    have dd := dps_of c1 r
    rw [toPys_map, hK] at dd
    refine ⟨a, ys, _, z, rfl, rfl, hs, dd, c2, c3, fun e => (by cases e), fun y yy e => ?_⟩
    cases e
    exact min_pick g c1 r p
theorem rels_map {S : RS} : ∀ {l : List (Val × V)}, (∀ p ∈ l, Rel S p.1 p.2) → Rels S (l.map Prod.fst) (l.map Prod.snd)
  | [], _ => rfl
  | p :: r, h => ⟨p.2, _, rfl, h p List.mem_cons_self, rels_map fun q hq => h q (List.mem_cons_of_mem _ hq)⟩
theorem rels_zip {S : RS} : ∀ {vs : List Val} {xs : List V}, Rels S vs xs → (∀ p ∈ vs.zip xs, Rel S p.1 p.2) ∧ (vs.zip xs).map Prod.fst = vs ∧ (vs.zip xs).map Prod.snd = xs
  | [], _, h => by cases h; exact ⟨fun p hp => (by cases hp), rfl, rfl⟩
  | v :: r, xs, h => by
    obtain ⟨x, t, rfl, h1, h2⟩ := h
    obtain ⟨a, b, c⟩ := rels_zip h2
    refine ⟨fun p hp => ?_, by simp [b], by simp [c]⟩
    rcases List.mem_cons.mp hp with rfl | hp
    · exact h1
    · exact a p hp
theorem srtOk_parts {xs : List Val} (h : srtOk xs = true) : Val.flats xs = true ∧ PySem.W.AllAlike (xs.map toPy) ∧ MS.Srtb (xs.map toPy) ∧ PyData.depthAll (xs.map toPy) ≤ 64 := by
  unfold srtOk at h
  simp only [Bool.and_eq_true, decide_eq_true_eq] at h
  obtain ⟨⟨⟨h1, h2⟩, h3⟩, h4⟩ := h
  refine ⟨h1, alikes_py h3, ?_, by rw [← toPys_map]; exact Nat.le_trans (deeps_py xs) h2⟩
  rcases Bool.or_eq_true_iff.mp h4 with h4 | h4
  · refine .inl fun d hd => ?_
    obtain ⟨a, ha, rfl⟩ := List.mem_map.mp hd
    have q := (List.all_eq_true.mp h4) a ha
    cases a with
    | tup ys => exact ⟨toPys ys, rfl⟩
    | _ => cases q
  · refine .inr fun d hd => ?_
    obtain ⟨a, ha, rfl⟩ := List.mem_map.mp hd
    have q := (List.all_eq_true.mp h4) a ha
    have f := flats_mem h1 _ ha
    cases a with
    | none => cases q
    | tup ys => cases q
    | bool _ => exact ⟨by simp [toPy], by simp [toPy]⟩
    | int _ => exact ⟨by simp [toPy], by simp [toPy]⟩
    | str _ => exact ⟨by simp [toPy], by simp [toPy]⟩
    | list _ => exact ⟨by simp [toPy], by simp [toPy]⟩
    | _ => cases f
theorem depth_mem : ∀ {ds : List PyData}, ∀ d ∈ ds, d.depth ≤ PyData.depthAll ds
  | [], d, h => by cases h
  | e :: r, d, h => by
    show _ ≤ max e.depth (PyData.depthAll r)
    rcases List.mem_cons.mp h with rfl | h
    · omega
    · have := depth_mem d h; omega
theorem sort_rels {S : RS} {zs : List Val} {ys : List V} (r : Rels S zs ys) : Rels S (sortV zs) (((ys.zip (zs.map toPy)).mergeSort leP).map Prod.fst) := by
  obtain ⟨h1, h2, h3⟩ := rels_zip r
  let le3 : Val × V → Val × V → Bool := fun a b => !ltD b.1 a.1
  have e1 : sortV zs = ((zs.zip ys).mergeSort le3).map Prod.fst := by
    unfold sortV
    have := List.map_mergeSort (r := le3) (s := fun a b : Val => !ltD b a) (f := Prod.fst) (l := zs.zip ys) (fun a _ b _ => rfl)
    rw [this, h2]
  have e2 : ((ys.zip (zs.map toPy)).mergeSort leP).map Prod.fst = ((zs.zip ys).mergeSort le3).map Prod.snd := by
    have q := List.map_mergeSort (r := le3) (s := leP) (f := fun p : Val × V => (p.2, toPy p.1)) (l := zs.zip ys) (fun a _ b _ => by
      show (!ltD b.1 a.1) = PySem.W.dataLe false Prod.snd (a.2, toPy a.1) (b.2, toPy b.1)
      rw [PySem.W.dataLe_eq]
      rfl)
    have e3 : (zs.zip ys).map (fun p : Val × V => (p.2, toPy p.1)) = ys.zip (zs.map toPy) := by
      clear h1 h2 h3 q e1
      have hl := r.len
      induction zs generalizing ys with
      | nil => cases ys <;> simp
      | cons z t ih =>
        cases ys with
        | nil => cases hl
        | cons y u =>
          obtain ⟨x, w, ex, r1, r2⟩ := r
          cases ex
          simp only [List.zip_cons_cons, List.map_cons]
          rw [ih r2 (by simpa using hl)]
    rw [← e3, ← q, List.map_map]
    rfl
  rw [e1, e2]
  exact rels_map fun p hp => h1 p (List.mem_mergeSort.mp hp)
theorem pr_sortL {m : Bool} : PRc X (.sortL m) (rSortG X.K) := fun S vs xs Q hK g r p => by
  obtain ⟨v, x, rfl, rfl, rv⟩ := one_of r (fun _ _ _ => rfl) rfl p
  have p : Post S (lstr S.h v fun xs => if srtOk xs then okList m (sortV xs) S.h else .stuck) Q := p
  unfold lstr at p
  cases e : lstOf S.h v with
  | none => rw [e] at p; exact p.elim
  | some zs =>
    rw [e] at p
    obtain ⟨c, p⟩ := ite_of p
    obtain ⟨c1, c2, c3, c4⟩ := srtOk_parts c
    obtain ⟨a, ys, rfl, h, r⟩ := lst_rel g rv e
    have d := dps_of c1 r
    rw [toPys_map, hK] at d
    have hl : ys.length = (zs.map toPy).length := by rw [List.length_map]; exact r.len.symm
    have f1 : (ys.zip (zs.map toPy)).map Prod.fst = ys := List.map_fst_zip (by omega)
    have f2 : (ys.zip (zs.map toPy)).map Prod.snd = zs.map toPy := List.map_snd_zip (by omega)
    obtain ⟨k1, k2⟩ := okList_of g (sort_rels r) p
    refine ⟨a, ys.zip (zs.map toPy), rfl, ?_, ?_, ?_, ?_, fun p hp => ?_, ?_, k2⟩
    · rw [f1]; exact .inl (.inl h)
    · rw [f1, f2]; exact d
    · rw [f2]; exact c2
    · rw [f2]; exact c3
    · have : p.2 ∈ zs.map toPy := by rw [← f2]; exact List.mem_map.mpr ⟨p, hp, rfl⟩
      exact Nat.le_trans (depth_mem _ this) c4
    · rw [List.length_zip, List.length_map]
      unfold sortV at k1
      rw [List.length_mergeSort] at k1
      omega
/-! ### sorted(set(numbers)) -/
theorem insU_mem {i : Int} : ∀ {l : List Int} {k : Int}, k ∈ insU i l ↔ k = i ∨ k ∈ l
  | [], k => by simp [insU]
  | j :: r, k => by
    unfold insU
    split
    · simp
    · split
      · rename_i h; subst h; simp
      · rw [List.mem_cons, insU_mem, List.mem_cons]
        constructor
        · rintro (h | h | h) <;> simp [h]
        · rintro (h | h | h) <;> simp [h]
theorem insU_up {i : Int} : ∀ {l : List Int}, l.Pairwise (· < ·) → (insU i l).Pairwise (· < ·)
  | [], _ => by simp [insU]
  | j :: r, h => by
    have h' := List.pairwise_cons.mp h
    unfold insU
    split
    · rename_i q
      refine List.pairwise_cons.mpr ⟨fun x hx => ?_, h⟩
      rcases List.mem_cons.mp hx with rfl | hx
      · exact q
      · have := h'.1 x hx; omega
    · split
      · exact h
      · refine List.pairwise_cons.mpr ⟨fun x hx => ?_, insU_up h'.2⟩
        rcases insU_mem.mp hx with rfl | hx
        · omega
        · exact h'.1 x hx
theorem sortU_mem : ∀ {l : List Int} {k : Int}, k ∈ sortU l ↔ k ∈ l
  | [], k => by simp [sortU]
  | i :: r, k => by
    show k ∈ insU i (sortU r) ↔ _
    rw [insU_mem, sortU_mem, List.mem_cons]
theorem sortU_up : ∀ l : List Int, (sortU l).Pairwise (· < ·)
  | [] => .nil
  | i :: r => insU_up (sortU_up r)
theorem up_eq : ∀ {a b : List Int}, a.Pairwise (· < ·) → b.Pairwise (· < ·) → (∀ k, k ∈ a ↔ k ∈ b) → a = b
  | [], [], _, _, _ => rfl
  | [], y :: _, _, _, h => by have := (h y).mpr List.mem_cons_self; cases this
  | x :: _, [], _, _, h => by have := (h x).mp List.mem_cons_self; cases this
  | x :: a, y :: b, ha, hb, h => by
    have ha' := List.pairwise_cons.mp ha
    have hb' := List.pairwise_cons.mp hb
    have e : x = y := by
      rcases List.mem_cons.mp ((h x).mp List.mem_cons_self) with e | e
      · exact e
      · rcases List.mem_cons.mp ((h y).mpr List.mem_cons_self) with e2 | e2
        · exact e2.symm
        · have := hb'.1 x e
          have := ha'.1 y e2
          omega
    subst e
    rw [up_eq ha'.2 hb'.2 fun k => ?_]
    constructor
    · intro hk
      rcases List.mem_cons.mp ((h k).mp (List.mem_cons_of_mem _ hk)) with e | e
      · have := ha'.1 k hk; omega
      · exact e
    · intro hk
      rcases List.mem_cons.mp ((h k).mpr (List.mem_cons_of_mem _ hk)) with e | e
      · have := hb'.1 k hk; omega
      · exact e
def rSetTI (K : PySem.W.Frag) (w : World) : List V → Hp → VK → Prop := fun vs H Q => ∃ (a : Addr) (ns : List Int), vs = [.ref a] ∧ SqT K H a (ns.map V.int) ∧ ns.length ≤ 1000 ∧ ∀ p n, H p = none → n ≤ ns.length → Q (.ref p) (upd H p (SetO w p (fun j => decide (j ∈ ns)) n))
theorem cr_setTI (hc : X.calm = true) : CallR X (.type "set") (rSetTI X.K X.w) := fun pins s σ H vs us Q I r h => by
  obtain ⟨a, ns, rfl, ht, hz, q⟩ := h
  rw [Vals.ref1 r]
  obtain ⟨its, rv, pt, _⟩ := I.tuple ht
  have hi : IntsAre its.toArray.toList ns := by simpa using Vals.ints rv
  refine call_set_tupI ns (I.ok.hd hc) pt hi (by unfold scanBound; omega) fun h' tk c R hcn k => ?_
  have n : H s.heap.objs.size = none := I.hok.fresh (Nat.le_refl _)
  exact ⟨.ref _, upd H s.heap.objs.size (SetO X.w s.heap.objs.size (fun j => decide (j ∈ ns)) c), I.laid (t' := tk) k (Nat.le_refl _) (setO_new R), rfl, q _ c n hcn⟩
/-- sorted(set(t)), t a tuple of numbers -/
def rSortSetI (K : PySem.W.Frag) (w : World) : V → Hp → VK → Prop := fun x H Q => rSetTI K w [x] H fun y H1 => rSortedSet w [y] H1 Q
theorem pr_sortSet {m : Bool} {S : RS} {v : Val} {x : V} {Q : VK} (hK : S.K = X.K) (g : Good S) (rv : Rel S v x) (p : Post S (evP (.sortSet m) [v] S.h) Q) : rSortSetI X.K X.w x S.H Q := by
  cases v with
  | tup zs =>
    have p : Post S (match intsOf zs with
      | some is => if is.length < 64 then okList m ((sortU is).map .int) S.h else .stuck
      | none => .stuck) Q := p
    cases e : intsOf zs with
    | none => rw [e] at p; exact p.elim
    | some is =>
      rw [e] at p
      obtain ⟨c, p⟩ := ite_of p
      obtain ⟨a, ys, rfl, f, r⟩ := rv
      rw [ints_rel r e] at f
      refine ⟨a, is, rfl, by rw [← hK]; exact f.sq, by omega, fun q n hq hn => ⟨q, _, n, rfl, upd_same, by omega, fun ns l h1 h2 h3 hl => ?_⟩⟩
      have e2 : ns = sortU is := up_eq h1 (sortU_up is) fun k => by rw [h2, sortU_mem]; simp
      subst e2
      have hlq : l ≠ q := fun z => by rw [z, upd_same] at hl; cases hl
      have hl0 : S.H l = none := by rw [upd_ne hlq] at hl; exact hl
      let S1 := S.put q (SetO X.w q (fun j => decide (j ∈ is)) n)
      have g1 : Good S1 := good_put g hq
      have e1 : Ext S S1 := ext_put hq
      have rs : Rels S1 ((sortU is).map .int) ((sortU is).map V.int) := by
        generalize sortU is = zz
        induction zz with
        | nil => rfl
        | cons z t ih => exact ⟨_, _, rfl, rfl, ih⟩
      have hl1 : S1.H l = none := hl
      have p1 : Post S1 (okList m ((sortU is).map .int) S1.h) Q := PostG.ext p e1
      exact (okList_of g1 rs p1).2 l hl1
  | _ => exact (show False from p).elim
end
end M
namespace M
open PySem PySem.Spec PyProof.Rows L2
/-! ### dicts whose keys are numbers and texts -/
theorem kV_inj {a b : Key} (h : kV a = kV b) : a = b := by
  cases a <;> cases b <;> cases h <;> rfl
theorem key_of {S : RS} {q : Val} {x : V} (h : okKey q = true) (r : Rel S q x) : ∃ k : Key, x = kV k := by
  cases q with
  | int i => cases r; exact ⟨.inl i, rfl⟩
  | str s => exact ⟨.inr (toS s), r.1⟩
  | _ => cases h
theorem same_key {S : RS} {k q : Val} {a b : Key} (h : okKey q = true) (rk : Rel S k (kV a)) (rq : Rel S q (kV b)) : Val.same k q = decide (a = b) := by
  cases q with
  | int i =>
    cases b with
    | inr s => exact absurd (show V.str s = V.int i from rq) (fun e => by cases e)
    | inl j =>
      have e : V.int j = V.int i := rq
      cases e
      cases k with
      | int m =>
        cases a with
        | inr s => exact absurd (show V.str s = V.int m from rk) (fun e => by cases e)
        | inl n =>
          have e : V.int n = V.int m := rk
          cases e
          show (m == i) = decide ((Sum.inl m : Key) = Sum.inl i)
          by_cases z : m = i
          · subst z; simp
          · rw [decide_eq_false (fun e => z (Sum.inl.inj e))]; exact beq_false_of_ne z
      | str s =>
        obtain ⟨e, _⟩ := rk
        cases a with
        | inl n => cases e
        | inr t => rw [decide_eq_false (fun e => by cases e)]; rfl
      | none => cases a <;> exact absurd rk (fun e => by cases e)
      | bool b => cases a <;> exact absurd rk (fun e => by cases e)
      | tup xs => obtain ⟨_, _, e, _⟩ := rk; cases a <;> cases e
      | list xs => obtain ⟨_, _, e, _⟩ := rk; cases a <;> cases e
      | dict _ _ => obtain ⟨_, _, e, _⟩ := rk; cases a <;> cases e
      | ref _ => obtain ⟨_, _, e⟩ := rk; cases a <;> cases e
      | scr _ => obtain ⟨_, _, e, _⟩ := rk; cases a <;> cases e
      | obj _ _ _ => exact rk.elim
      | fn _ => exact rk.elim
      | cls _ => exact rk.elim
      | ty _ => exact rk.elim
  | str i =>
    obtain ⟨rq, _⟩ := rq
    cases b with
    | inl j => cases rq
    | inr j =>
      cases rq
      cases k with
      | str m =>
        obtain ⟨rk, _⟩ := rk
        cases a with
        | inl n => cases rk
        | inr n =>
          cases rk
          show (m == i) = decide ((Sum.inr (toS m) : Key) = Sum.inr (toS i))
          by_cases z : m = i
          · subst z; simp
          · rw [decide_eq_false (fun e => z (toS_inj (Sum.inr.inj e)))]; exact beq_false_of_ne z
      | int m =>
        have e : kV a = V.int m := rk
        cases a with
        | inl n => rw [decide_eq_false (fun e => by cases e)]; rfl
        | inr t => cases e
      | none => cases a <;> exact absurd rk (fun e => by cases e)
      | bool b => cases a <;> exact absurd rk (fun e => by cases e)
      | tup xs => obtain ⟨_, _, e, _⟩ := rk; cases a <;> cases e
      | list xs => obtain ⟨_, _, e, _⟩ := rk; cases a <;> cases e
      | dict _ _ => obtain ⟨_, _, e, _⟩ := rk; cases a <;> cases e
      | ref _ => obtain ⟨_, _, e⟩ := rk; cases a <;> cases e
      | scr _ => obtain ⟨_, _, e, _⟩ := rk; cases a <;> cases e
      | obj _ _ _ => exact rk.elim
      | fn _ => exact rk.elim
      | cls _ => exact rk.elim
      | ty _ => exact rk.elim
  | _ => cases h
theorem valV_cons {a b : Key} {y : V} {r : List (Key × V)} : valV ((a, y) :: r) b = if a = b then some y else valV r b := by
  unfold valV
  rw [List.find?_cons]
  by_cases h : a = b
  · rw [if_pos h, decide_eq_true h]; rfl
  · rw [if_neg h, decide_eq_false h]
/-- the look-up -/
def Looks (S : RS) (o : Option Val) (p : Option V) : Prop := (∃ v y, o = some v ∧ p = some y ∧ Rel S v y) ∨ (o = none ∧ p = none)
theorem look_rel {S : RS} {q : Val} {b : Key} (h : okKey q = true) (rq : Rel S q (kV b)) : ∀ {ks vs : List Val} {kvs : List (Key × V)}, Rels S ks (kvs.map fun p => kV p.1) → Rels S vs (kvs.map Prod.snd) → Looks S (lookD ks vs q) (valV kvs b)
  | [], vs, [], _, _ => .inr ⟨by cases vs <;> rfl, rfl⟩
  | [], vs, _ :: _, r, _ => by cases (show _ :: _ = [] from r)
  | k :: ks, vs, [], r, _ => by obtain ⟨x, t, e, _⟩ := r; cases e
  | k :: ks, [], _ :: _, _, r => by cases (show _ :: _ = [] from r)
  | k :: ks, v :: vs, (a, y) :: kvs, r1, r2 => by
    obtain ⟨x, t, e, r3, r4⟩ := r1
    cases e
    obtain ⟨x, t, e, r5, r6⟩ := r2
    cases e
    have e := same_key h r3 rq
    rw [valV_cons]
    show Looks S (if Val.same k q then some v else lookD ks vs q) _
    rw [e]
    by_cases z : a = b
    · rw [decide_eq_true z, if_pos rfl, if_pos z]; exact .inl ⟨v, y, rfl, rfl, r5⟩
    · rw [decide_eq_false z, if_neg (by decide), if_neg z]; exact look_rel h rq r4 r6
theorem has_rel {S : RS} {q : Val} {b : Key} (h : okKey q = true) (rq : Rel S q (kV b)) : ∀ {ks : List Val} {kvs : List (Key × V)}, Rels S ks (kvs.map fun p => kV p.1) → hasD ks q = kvs.any fun kv => decide (kv.1 = b)
  | [], [], _ => rfl
  | [], _ :: _, r => by cases (show _ :: _ = [] from r)
  | k :: ks, [], r => by obtain ⟨x, t, e, _⟩ := r; cases e
  | k :: ks, (a, y) :: kvs, r => by
    obtain ⟨x, t, e, r3, r4⟩ := r
    cases e
    have e := same_key h r3 rq
    have ih := has_rel h rq r4
    unfold hasD at ih ⊢
    rw [List.any_cons, List.any_cons, ih, e]
theorem repl_rel {S : RS} {q w : Val} {b : Key} {z : V} (h : okKey q = true) (rq : Rel S q (kV b)) (rw_ : Rel S w z) : ∀ {ks vs : List Val} {kvs : List (Key × V)}, Rels S ks (kvs.map fun p => kV p.1) → Rels S vs (kvs.map Prod.snd) →
    Rels S (replD ks vs q w) ((kvs.map fun kv => if kv.1 = b then (kv.1, z) else kv).map Prod.snd)
  | [], vs, [], _, _ => by cases vs <;> rfl
  | [], vs, _ :: _, r, _ => by cases (show _ :: _ = [] from r)
  | k :: ks, vs, [], r, _ => by obtain ⟨x, t, e, _⟩ := r; cases e
  | k :: ks, [], _ :: _, _, r => by cases (show _ :: _ = [] from r)
  | k :: ks, v :: vs, (a, y) :: kvs, r1, r2 => by
    obtain ⟨x, t, e, r3, r4⟩ := r1
    cases e
    obtain ⟨x, t, e, r5, r6⟩ := r2
    cases e
    have e := same_key h r3 rq
    have ih := repl_rel h rq rw_ r4 r6
    show Rels S ((if Val.same k q then w else v) :: replD ks vs q w) _
    rw [e]
    by_cases c : a = b
    · refine ⟨z, _, ?_, ?_, ih⟩
      · show ((if a = b then (a, z) else (a, y)) :: _).map Prod.snd = _
        rw [if_pos c]; rfl
      · rw [decide_eq_true c, if_pos rfl]; exact rw_
    · refine ⟨y, _, ?_, ?_, ih⟩
      · show ((if a = b then (a, z) else (a, y)) :: _).map Prod.snd = _
        rw [if_neg c]; rfl
      · rw [decide_eq_false c, if_neg (by decide)]; exact r5
theorem put_rel {S : RS} {q w : Val} {b : Key} {z : V} (h : okKey q = true) (rq : Rel S q (kV b)) (rw_ : Rel S w z) {ks vs : List Val} {kvs : List (Key × V)} (r1 : Rels S ks (kvs.map fun p => kV p.1)) (r2 : Rels S vs (kvs.map Prod.snd)) :
    Rels S (putKs ks q) ((putK kvs b z).map fun p => kV p.1) ∧ Rels S (putVs ks vs q w) ((putK kvs b z).map Prod.snd) := by
  have e := has_rel h rq r1
  unfold putKs putVs putK
  rw [e]
  cases c : (kvs.any fun kv => decide (kv.1 = b)) with
  | true =>
    simp only [if_true]
    refine ⟨?_, repl_rel h rq rw_ r1 r2⟩
    have e2 : ((kvs.map fun kv => if kv.1 = b then (kv.1, z) else kv).map fun p => kV p.1) = kvs.map fun p => kV p.1 := by
      rw [List.map_map]
      refine List.map_congr_left fun kv _ => ?_
      show kV (if kv.1 = b then (kv.1, z) else kv).1 = kV kv.1
      split <;> rfl
    rw [e2]; exact r1
  | false =>
    simp only [Bool.false_eq_true, if_false]
    rw [List.map_append, List.map_append]
    exact ⟨r1.app (.one rq), r2.app (.one rw_)⟩
section
variable {X : Cx}
def rDGet : R2 := fun x y H Q => ∃ a v, x = .ref a ∧ DGet H a y (some v) ∧ Q v H
def rDIn (neg : Bool) : R2 := fun y x H Q => ∃ a o, x = .ref a ∧ DGet H a y o ∧ Q (.bl (if neg then !o.isSome else o.isSome)) H
theorem dic_of {S : RS} (g : Good S) {d : Val} {x : V} {ks vs : List Val} (r : Rel S d x) (e : dr S.h d = some (.dict ks vs)) : DicAt S x ks vs := dr_rel g r e
theorem pr_dget : PR2 X .dget rDGet := fun S v w x y Q hK g rv rw_ p => by
  have p : Post S (dgetV S.h v w) Q := p
  unfold dgetV at p
  cases e1 : dr S.h v with
  | none => rw [e1] at p; exact p.elim
  | some d =>
    rw [e1] at p
    cases d with
    | dict ks vs =>
      obtain ⟨c, p⟩ := ite_of p
      obtain ⟨a, kvs, rfl, hH, r1, r2⟩ := dic_of g rv e1
      obtain ⟨b, rfl⟩ := key_of c rw_
      rcases look_rel c rw_ r1 r2 with ⟨u, z, e2, e3, r3⟩ | ⟨e2, e3⟩
      · rw [e2] at p
        refine ⟨a, z, rfl, ?_, old_val g r3 p⟩
        rw [← e3]; exact .k hH
      · rw [e2] at p; exact p.elim
    | _ => exact p.elim
theorem din_of {S : RS} (g : Good S) {q d : Val} {y x : V} {b : Bool} (rq : Rel S q y) (rd : Rel S d x) (e : dinV S.h q d = some b) : ∃ a o, x = .ref a ∧ DGet S.H a y o ∧ o.isSome = b := by
  unfold dinV at e
  cases e1 : dr S.h d with
  | none => rw [e1] at e; cases e
  | some w =>
    rw [e1] at e
    cases w with
    | dict ks vs =>
      simp only at e
      split at e
      · rename_i c
        obtain ⟨a, kvs, rfl, hH, r1, r2⟩ := dic_of g rd e1
        obtain ⟨k, rfl⟩ := key_of c rq
        cases e
        refine ⟨a, _, rfl, .k hH, ?_⟩
        rcases look_rel c rq r1 r2 with ⟨u, z, e2, e3, _⟩ | ⟨e2, e3⟩ <;> rw [e2, e3] <;> rfl
      · cases e
    | _ => cases e
theorem pr_din : PR2 X .din (rDIn false) := fun S v w x y Q hK g rv rw_ p => by
  have p : Post S (optB (dinV S.h v w) S.h) Q := p
  obtain ⟨b, e, p⟩ := optB_of g p
  obtain ⟨a, o, e1, h, e2⟩ := din_of g rv rw_ e
  refine ⟨a, o, e1, h, ?_⟩
  subst e2; exact p
theorem pr_dnotin : PR2 X .dnotin (rDIn true) := fun S v w x y Q hK g rv rw_ p => by
  have p : Post S (optB ((dinV S.h v w).map (!·)) S.h) Q := p
  obtain ⟨b, e, p⟩ := optB_of g p
  cases e0 : dinV S.h v w with
  | none => rw [e0] at e; cases e
  | some b0 =>
    rw [e0] at e
    cases e
    obtain ⟨a, o, e1, h, e2⟩ := din_of g rv rw_ e0
    refine ⟨a, o, e1, h, ?_⟩
    subst e2; exact p
theorem ltCps_eq : ∀ a b : List Nat, ltCps a b = ltT a b
  | [], [] => rfl
  | [], _ :: _ => rfl
  | _ :: _, [] => rfl
  | a :: s, b :: t => by
    unfold ltCps ltT
    rw [ltCps_eq s t]
    by_cases h : a < b
    · simp [h]
    · by_cases e : a = b
      · simp [h, e]
      · simp [h, e]
theorem leT_iff {a b : T} : (!ltT b a) = true ↔ a ≤ b := by
  rw [ltT_iff]
  simp
theorem rising_pw : ∀ {x : Str} {r : List Str}, risingS x r = true → List.Pairwise (fun a b : Str => a.cps.toList ≤ b.cps.toList) (x :: r)
  | x, [], _ => List.pairwise_singleton _ _
  | x, y :: r, h => by
    have h : (!ltCps y.cps.toList x.cps.toList && risingS y r) = true := h
    obtain ⟨h1, h2⟩ := Bool.and_eq_true_iff.mp h
    rw [ltCps_eq] at h1
    have h1 := leT_iff.mp h1
    have ih := rising_pw h2
    refine List.pairwise_cons.mpr ⟨fun z hz => ?_, ih⟩
    rcases List.mem_cons.mp hz with rfl | hz
    · exact h1
    · exact List.le_trans h1 ((List.pairwise_cons.mp ih).1 z hz)
theorem sorted_pw {l : List Str} (h : sortedS l = true) : List.Pairwise (fun a b : Str => a.cps.toList ≤ b.cps.toList) l := by
  cases l with
  | nil => exact .nil
  | cons x r => exact rising_pw h
theorem sortT_pw (ts : List T) : List.Pairwise (fun a b : T => a ≤ b) (sortT ts) := by
  have h := List.pairwise_mergeSort (le := fun a b : T => !ltT b a) (fun a b c h1 h2 => leT_iff.mpr (List.le_trans (leT_iff.mp h1) (leT_iff.mp h2))) (fun a b => by
    rcases List.le_total a b with h | h
    · rw [leT_iff.mpr h]; rfl
    · rw [leT_iff.mpr h, Bool.or_true]) ts
  exact h.imp fun z => leT_iff.mp z
theorem sortT_uniq {ts : List T} {ys : List Str} (hp : ys.Perm (ts.map toS)) (hs : sortedS ys = true) : ys = (sortT ts).map toS := by
  refine List.Perm.eq_of_pairwise (le := fun a b : Str => a.cps.toList ≤ b.cps.toList) (fun a b _ _ h1 h2 => ?_) (sorted_pw hs) ?_ (hp.trans ((List.mergeSort_perm ts _).symm.map toS))
  · have e := List.le_antisymm h1 h2
    cases a with
    | mk a => cases b with
      | mk b => exact congrArg Str.mk (Array.toList_inj.mp e)
  · rw [List.pairwise_map]
    refine (sortT_pw ts).imp fun {a b} z => ?_
    rw [toS_cps, toS_cps]
    exact z
def rSortD : List V → Hp → VK → Prop := fun xs H Q => ∃ a kvs ks, xs = [V.ref a] ∧ Rd H a (HO.dK kvs) ∧ kvs.map (fun x => x.1) = ks.map Sum.inr ∧ ks.length < 64 ∧ ∀ (ys : List Str) (p : Addr), ys.Perm ks → sortedS ys = true → H p = none → Q (V.ref p) (upd H p (HO.lst (ys.map V.str)))
theorem keys_inr : ∀ {kvs : List (Key × V)} {ts : List T}, kvs.map (fun p => kV p.1) = (ts.map toS).map V.str → kvs.map (fun x => x.1) = (ts.map toS).map Sum.inr
  | [], [], _ => rfl
  | [], _ :: _, h => by cases h
  | _ :: _, [], h => by cases h
  | (k, y) :: r, t :: ts, h => by
    obtain ⟨h1, h2⟩ := List.cons.inj (show kV k :: r.map (fun p => kV p.1) = V.str (toS t) :: (ts.map toS).map V.str from h)
    have e := keys_inr h2
    cases k with
    | inl i => cases h1
    | inr s =>
      cases h1
      exact congrArg (Sum.inr (toS t) :: ·) e
theorem strs_rels {S : RS} : ∀ {ts : List T}, (∀ t ∈ ts, asc t = true) → Rels S (ts.map Val.str) ((ts.map toS).map V.str)
  | [], _ => rfl
  | t :: r, h => ⟨_, _, rfl, ⟨rfl, h t List.mem_cons_self⟩, strs_rels fun x hx => h x (List.mem_cons_of_mem _ hx)⟩
theorem pr_sortD : PRc X .sortD rSortD := fun S vs xs Q hK g r p => by
  obtain ⟨v, x, rfl, rfl, rv⟩ := one_of r (fun _ _ _ => rfl) rfl p
  have p : Post S (sortDV S.h v) Q := p
  unfold sortDV at p
  cases e1 : dr S.h v with
  | none => rw [e1] at p; exact p.elim
  | some d =>
    rw [e1] at p
    cases d with
    | dict ks vs =>
      simp only at p
      cases e2 : textsOf ks with
      | none => rw [e2] at p; exact p.elim
      | some ts =>
        rw [e2] at p
        obtain ⟨c, p⟩ := ite_of p
        obtain ⟨a, kvs, rfl, hH, r1, r2⟩ := dic_of g rv e1
        obtain ⟨e3, e4⟩ := texts_rel r1 e2
        refine ⟨a, kvs, ts.map toS, rfl, .inl hH, keys_inr e3, by rw [List.length_map]; exact c, fun ys q hp hs n => ?_⟩
        have ey := sortT_uniq hp hs
        subst ey
        have ha : ∀ t ∈ sortT ts, asc t = true := fun t ht => e4 t ((List.mergeSort_perm ts _).mem_iff.mp ht)
        exact (okList_of g (strs_rels ha) p).2 q n
    | _ => exact p.elim
theorem isDct_dr {h : Heap} {v : Val} (e : isDct v h = true) : ∃ ks vs, dr h v = some (.dict ks vs) := by
  unfold isDct at e
  cases v with
  | dict ks vs => exact ⟨ks, vs, rfl⟩
  | ref n =>
    simp only at e
    cases q : h[n]? with
    | none => rw [q] at e; cases e
    | some o =>
      rw [q] at e
      cases o with
      | dict ks vs => exact ⟨ks, vs, by unfold dr; simp only [q]⟩
      | _ => cases e
  | _ => cases e
theorem pr_mulm : PR2 X .mulm rRep := fun S v w x y Q hK g rv rw_ p => by
  cases v with
  | list xs =>
    cases w with
    | int j =>
      obtain ⟨⟨c1, cm⟩, p⟩ := ite_of (show Post S (if xs.length * j.toNat ≤ SL ∧ inM j = true then okList true (List.replicate j.toNat xs).flatten S.h else .stuck) Q from p)
      obtain ⟨c2, c3⟩ := inM_iff.mp cm
      cases rw_
      obtain ⟨a, ys, rfl, h, r⟩ := rv
      have rr : ∀ n, Rels S (List.replicate n xs).flatten (List.replicate n ys).flatten := fun n => by
        induction n with
        | zero => rfl
        | succ n ih => rw [List.replicate_succ, List.replicate_succ, List.flatten_cons, List.flatten_cons]; exact r.app ih
      obtain ⟨z, k⟩ := okList_of g (rr j.toNat) p
      exact ⟨a, j, ys, rfl, rfl, h.1, by omega, by omega, by rw [← r.len, ← SL_eq]; exact c1, k⟩
    | _ => exact p.elim
  | _ => exact p.elim
/-! ### displays -/
theorem end_mutO {S S' : RS} {D : Addr} {ou : Obj} {Q : VK} (g : Good S) (n : S.H D = none) (g' : Good S') (e : Ext S S') (hD : D ∈ S'.own) (r : ORel S' D ou)
    (p : Post S (.ok (.ref S'.h.length) (S'.h ++ [ou])) Q) : Q (.ref D) S'.H := by
  let T : RS := { S' with r := S'.r ++ [D], h := S'.h ++ [ou], own := S.own }
  have lv : ∀ a, Live T a → Live S' a ∨ a = D := fun a l => by
    rcases l with ⟨i, o, h1, h2, h3⟩ | m
    · have h1' : (S'.r ++ [D])[i]? = some a := h1
      have h2' : (S'.h ++ [ou])[i]? = some o := h2
      by_cases hi : i < S'.r.length
      · rw [List.getElem?_append_left hi] at h1'
        rw [List.getElem?_append_left (by rw [← g'.len]; exact hi)] at h2'
        exact .inl (.inl ⟨i, o, h1', h2', h3⟩)
      · rw [List.getElem?_append_right (Nat.le_of_not_lt hi)] at h1'
        cases hj : i - S'.r.length with
        | zero => rw [hj] at h1'; simp at h1'; exact .inr h1'.symm
        | succ n => rw [hj] at h1'; simp at h1'
    · exact .inl (.inr (e.sub a m))
  have hl : ∀ a, ¬ Live S' a → (∃ o, S'.H a = some o) → ¬ Live T a := fun a nl _ l => (lv a l).elim nl fun z => nl (.inr (by rw [z]; exact hD))
  have hr : ∀ (i : Nat) a, S'.r[i]? = some a → T.r[i]? = some a := fun i a h => by
    show (S'.r ++ [D])[i]? = some a
    rw [List.getElem?_append_left (List.getElem?_eq_some_iff.mp h).1]; exact h
  have gT : Good T := by
    refine ⟨by show (S'.r ++ [D]).length = (S'.h ++ [ou]).length; rw [List.length_append, List.length_append, g'.len]; rfl, ?_, fun i o a h1 h2 => ?_, fun a m => ⟨?_, fun hm => ?_⟩⟩
    · show (S'.r ++ [D]).Nodup
      rw [List.nodup_append]
      refine ⟨g'.nd, by simp, fun a ha b hb => ?_⟩
      rw [List.mem_singleton.mp hb]
      rintro rfl
      exact (g'.ow _ hD).2 ha
    · have h1' : (S'.h ++ [ou])[i]? = some o := h1
      have h2' : (S'.r ++ [D])[i]? = some a := h2
      by_cases hi : i < S'.r.length
      · rw [List.getElem?_append_left hi] at h2'
        rw [List.getElem?_append_left (by rw [← g'.len]; exact hi)] at h1'
        exact ORel.hop (S := S') (S0 := T) rfl (fun _ _ _ h => h) hl hr (fun _ h => h) (g'.obj i o a h1' h2')
      · rw [List.getElem?_append_right (Nat.le_of_not_lt hi)] at h2'
        rw [List.getElem?_append_right (by rw [← g'.len]; exact Nat.le_of_not_lt hi), ← g'.len] at h1'
        cases hj : i - S'.r.length with
        | zero =>
          rw [hj] at h1' h2'
          simp at h1' h2'
          subst h1' h2'
          exact ORel.hop (S := S') (S0 := T) rfl (fun _ _ _ h => h) hl hr (fun _ h => h) r
        | succ n => rw [hj] at h1'; simp at h1'
    · obtain ⟨⟨u, q⟩, _⟩ := g.ow a m
      exact ⟨u, e.kow a u m q⟩
    · rcases List.mem_append.mp (show a ∈ S'.r ++ [D] from hm) with z | z
      · exact (g'.ow a (e.sub a m)).2 z
      · obtain ⟨⟨u, q⟩, _⟩ := g.ow a m
        rw [List.mem_singleton.mp z, n] at q; cases q
  obtain ⟨t, hp⟩ := e.pre
  refine p T (.ref D) rfl gT ⟨e.K, ⟨t ++ [D], by show S'.r ++ [D] = _; rw [hp, List.append_assoc]⟩, fun a o h nl => ?_, fun _ h => h, e.kow⟩ ⟨D, ?_, rfl⟩
  · obtain ⟨h1, n1⟩ := e.keep a o h nl
    exact ⟨h1, hl a n1 ⟨o, h1⟩⟩
  · show (S'.r ++ [D])[S'.h.length]? = _
    rw [← g'.len]; simp
theorem end_frzD {S S' : RS} {D : Addr} {ks vs : List Val} {kvs : List (Key × V)} {Q : VK} (g : Good S) (n : S.H D = none) (g' : Good S') (e : Ext S S') (hD : D ∈ S'.own) (hH : S'.H D = some (.dK kvs)) (r1 : Rels S' ks (kvs.map fun p => kV p.1)) (r2 : Rels S' vs (kvs.map Prod.snd)) (p : Post S (.ok (.dict ks vs) S'.h) Q) : Q (.ref D) S'.H := by
  have hl : ∀ a, ¬ Live S' a → (∃ o, S'.H a = some o) → ¬ Live { S' with own := S.own } a := fun a nl _ l => nl (l.elim .inl fun m => .inr (e.sub a m))
  have nD : ¬ Live { S' with own := S.own } D := fun l => by
    rcases l with ⟨i, o, h1, _, _⟩ | m
    · exact (g'.ow D hD).2 (List.mem_of_getElem? h1)
    · obtain ⟨⟨u, q⟩, _⟩ := g.ow D m
      rw [n] at q; cases q
  refine p { S' with own := S.own } (.ref D) rfl ⟨g'.len, g'.nd, fun i o a h1 h2 => ?_, fun a m => ⟨?_, (g'.ow a (e.sub a m)).2⟩⟩ ⟨e.K, e.pre, fun a o h nl => ?_, fun _ h => h, e.kow⟩ ⟨D, kvs, rfl, ⟨hH, nD⟩, ?_, ?_⟩
  · exact ORel.hop (S := S') (S0 := { S' with own := S.own }) rfl (fun _ _ _ h => h) hl (fun _ _ h => h) (fun _ h => h) (g'.obj i o a h1 h2)
  · obtain ⟨⟨u, q⟩, _⟩ := g.ow a m
    exact ⟨u, e.kow a u m q⟩
  · obtain ⟨h1, n1⟩ := e.keep a o h nl
    exact ⟨h1, hl a n1 ⟨o, h1⟩⟩
  · exact Rels.hop (S := S') (S0 := { S' with own := S.own }) rfl (fun _ _ _ h => h) hl (fun _ _ h => h) r1
  · exact Rels.hop (S := S') (S0 := { S' with own := S.own }) rfl (fun _ _ _ h => h) hl (fun _ _ h => h) r2
theorem tDict0_M {m : Bool} {σ : L2.St} {H : Hp} {Q : VK} (q : tM X.K (fun _ h => evP (.dict0 m) [] h) σ H Q) : tDNewK σ H Q := by
  obtain ⟨S, ls, hK, hH, g, l, p⟩ := q
  subst hH
  intro a n
  cases m with
  | true => exact p (S.new a (.dK []) (.dict [] [])) _ rfl (good_new g n ⟨[], upd_same, rfl, rfl⟩) (ext_new g n) (rel_new g)
  | false => exact p (S.put a (.dK [])) _ rfl (good_put g n) (ext_put n) (rel_dic (kvs := []) g n rfl rfl)
theorem tDict1_M {m : Bool} {fk fv : Loc → Heap → Res Val} {σ : L2.St} {H : Hp} {Q : VK} (q : tM X.K (fun ls h => (fk ls h).bind fun v h => (fv ls h).bind fun w h => evP (.dict1 m) [v, w] h) σ H Q) : tDisp [(tM X.K fk, tM X.K fv)] σ H Q := by
  obtain ⟨S, ls, hK, hH, g, l, p⟩ := q
  subst hH
  intro D n
  have gA : Good (S.acc D (.dK [])) := good_acc g n
  have eA : Ext S (S.acc D (.dK [])) := ext_acc n
  refine ⟨S.acc D (.dK []), ls, hK, rfl, gA, l.ext eA, PostG.bind2 (S0 := S) (g := fun v h => (fv ls h).bind fun w h => evP (.dict1 m) [v, w] h) p fun k x S1 g1 e1 r1 p1 => ?_⟩
  refine ⟨S1, ls, e1.K.trans hK, rfl, g1, (l.ext eA).ext e1, PostG.bind2 (S0 := S) (g := fun w h => evP (.dict1 m) [k, w] h) p1 fun w y S2 g2 e2 r2 p2 => ?_⟩
  have e12 := eA.trans (e1.trans e2)
  have hD : D ∈ S2.own := e2.sub D (e1.sub D (List.mem_cons_self ..))
  have hH : S2.H D = some (.dK []) := e2.kow D _ (e1.sub D (List.mem_cons_self ..)) (e1.kow D _ (List.mem_cons_self ..) upd_same)
  obtain ⟨c, p2⟩ := ite_of (show Post S (if okKey k then (if m then .ok (.ref S2.h.length) (S2.h ++ [.dict [k] [w]]) else .ok (.dict [k] [w]) S2.h) else .stuck) Q from p2)
  obtain ⟨b, rfl⟩ := key_of c r1
  refine ⟨hH, [(b, y)], rfl, Nat.le_of_ble_eq_true rfl, ?_⟩
  show Q (.ref D) (upd S2.H D (.dK [(b, y)]))
  have g3 : Good (S2.acc2 D (.dK [(b, y)])) := good_acc2 g2 hD
  have e3 : Ext S (S2.acc2 D (.dK [(b, y)])) := ext_acc2 n e12 hD
  have hop : ∀ {v : Val} {x : V}, Rel S2 v x → Rel (S2.acc2 D (.dK [(b, y)])) v x := fun r => Rel.hop (S := S2) (S0 := S2.acc2 D (.dK [(b, y)])) rfl (acc2_H hD) (fun _ nl _ => nl) (fun _ _ h => h) r
  have rk : Rels (S2.acc2 D (.dK [(b, y)])) [k] ([(b, y)].map fun p => kV p.1) := .one (hop (r1.ext e2))
  have rv : Rels (S2.acc2 D (.dK [(b, y)])) [w] ([(b, y)].map Prod.snd) := .one (hop r2)
  cases m with
  | true => exact end_mutO (S' := S2.acc2 D (.dK [(b, y)])) (ou := .dict [k] [w]) g n g3 e3 hD ⟨_, upd_same, rk, rv⟩ p2
  | false => exact end_frzD (S' := S2.acc2 D (.dK [(b, y)])) g n g3 e3 hD upd_same rk rv p2
end
end M
namespace M
open PySem PySem.Spec PyProof.Rows L2
/-! ### comprehensions of any number of clauses -/
/-- a clause by its readings; vs: the slots of its target and of those of the clauses behind -/
structure Cla where
  wi : TI
  g : TG
  tt : TT
  vs : List Nat
/-- what is to be done in a turn, from it to a heap -/
abbrev Deed := L2.St → Hp → (Hp → Prop) → Prop
def tTurns (c : Cla) (deed : Deed) (J : It) (N : Hp → Prop) (τ : L2.St) (G : Hp) : Prop :=
  ∃ W : Nat → Nat → Hp → Prop, (∃ n, W 0 n G) ∧ ∀ i n G, W i n G → (J.stop i G ∧ N G) ∨
    (J.go i G ∧ ∃ Z : Hp → Prop, (∀ G', Z G' → ∃ n', n' < n ∧ W (i + 1) n' G') ∧ ∀ x G', J.yld i G x G' → c.g x (wipe τ c.vs) G' fun τ2 G2 => wipe τ2 c.vs = wipe τ c.vs ∧ c.tt τ2 G2 fun b G3 => if b = true then deed τ2 G3 Z else Z G3)
def tCls (last : Deed) : List Cla → Deed
  | [] => last
  | c :: cs => fun τ G N => c.wi τ G fun J G1 => tTurns c (tCls last cs) J N τ G1
def tMade (o0 : HO) (c : Cla) (deed : Addr → Deed) : TE := fun τ G Q => c.wi τ G fun J G1 => ∀ D, G1 D = none → tTurns c (deed D) J (fun G => Q (.ref D) G) τ (upd G1 D o0)
theorem wipe_keep {τ : L2.St} {i : Nat} : ∀ {vs : List Nat}, i ∉ vs → (wipe τ vs)[i]? = τ[i]?
  | [], _ => rfl
  | v :: vs, h => by
    unfold wipe
    rw [List.getElem?_set_ne fun z => h (by rw [z]; exact List.mem_cons_self)]
    exact wipe_keep fun m => h (List.mem_cons_of_mem _ m)
theorem wipe_in {τ : L2.St} {i : Nat} : ∀ {vs : List Nat}, i ∈ vs → (wipe τ vs)[i]? = if i < τ.length then some none else none
  | [], h => by cases h
  | v :: vs, h => by
    unfold wipe
    by_cases z : v = i
    · subst z
      by_cases l : v < τ.length
      · rw [List.getElem?_set_self (by rw [wipe_length]; exact l), if_pos l]
      · rw [List.getElem?_eq_none (by rw [List.length_set, wipe_length]; exact Nat.le_of_not_lt l), if_neg l]
    · rw [List.getElem?_set_ne z]
      exact wipe_in ((List.mem_cons.mp h).resolve_left fun y => z y.symm)
theorem wipe_idem {τ : L2.St} {vs : List Nat} : wipe (wipe τ vs) vs = wipe τ vs := by
  refine List.ext_getElem? fun j => ?_
  by_cases h : j ∈ vs
  · rw [wipe_in h, wipe_in h, wipe_length]
  · rw [wipe_keep h]
/-- a piece of a turn does what is to be done; some slots may be forgotten -/
def Does (X : Cx) (vs : List Nat) (m : Sem Unit) (deed : Deed) : Prop :=
  ∀ (pins : List (Addr × PySem.Obj)) (τ : L2.St) (G : Hp) (s : Shared) (N : Hp → Prop) (K : Shared → Prop), Inv X pins τ G s → deed τ G N →
    (∀ τ' G' s', Inv X pins τ' G' s' → τ'.length = τ.length → (∀ (j : Nat) v, (wipe τ vs)[j]? = some (some v) → τ'[j]? = some (some v)) → N G' → K s') →
    wpAny (model X.prog X.w) X.A m (fun _ s' => K s') (fun _ _ => False) s
/-- no generator -/
structure NoGen (e : Expr) : Prop where
  loop : ∀ (P : Program) (w : World) (A : Around) (d : Nat) (i acc : Value) (env : Env), A.under (.compLoop e d i acc env) = A ∧ (model P w).den (.compLoop e d i acc env) = (compTurn e d i acc env).onRaise fun x => do noteFrame x env; theTreesLotGoes x
  start : ∀ (P : Program) (w : World) (A : Around) (d : Nat) (i acc : Value) (env : Env), A.under (.compStart e d i acc env) = A ∧ (model P w).den (.compStart e d i acc env) = (compStart e d i acc env).onRaise fun x => do noteFrame x env; standAt theWindowsPlace
theorem noGen_list {el : Expr} {gs : List Comprehension} {sc : Scope} {p : Pos} : NoGen (.ListComp el gs sc p) := ⟨fun _ _ _ _ _ _ _ => ⟨rfl, rfl⟩, fun _ _ _ _ _ _ _ => ⟨rfl, rfl⟩⟩
theorem noGen_dict {el vl : Expr} {gs : List Comprehension} {sc : Scope} {p : Pos} : NoGen (.DictComp el vl gs sc p) := ⟨fun _ _ _ _ _ _ _ => ⟨rfl, rfl⟩, fun _ _ _ _ _ _ _ => ⟨rfl, rfl⟩⟩
/-- how a turn at a clause goes -/
def turnM (e : Expr) (d : Nat) (tg it0 : Expr) (ifs : List Expr) (it acc : Value) (env : Env) (m : Sem Unit) : Sem Fin := do
  standAt it0.pos
  match ← pyNext it with
  | none => pure (.done .next)
  | some u =>
    letOwnedTupleGo tg it u
    assign tg env u
    let mut good := true
    for q in ifs do
      if good then good ← isTrue q env (eval q env)
    if good then m
    again (.compLoop e d it acc env)
theorem thnX {α : Type} {X : Cx} {t : Sem α} {Q Q' : α → Shared → Prop} {M : Model} {A : Around} {E : Value → Shared → Prop} {s : Shared} (hx : ∀ e s, ¬ X.xe e s) (h : wpAny M A t Q X.xe s) (k : ∀ a s, Q a s → Q' a s) : wpAny M A t Q' E s :=
  wpAny_mono h k fun e s z => (hx e s z).elim
section
variable {X : Cx} {pins : List (Addr × PySem.Obj)} {τ : L2.St} {G : Hp} {s : Shared} {e tg it0 : Expr} {ifs : List Expr} {d : Nat} {it : Addr} {acc : Value} {m : Sem Unit} {c : Cla} {deed : Deed} {J : It} {N : Hp → Prop} {fp : List Addr} {tn : Nat → PySem.Heap → Prop}
theorem loop_at (he : NoGen e) (hx : ∀ e s, ¬ X.xe e s) (hc : X.calm = true) (ht : compTurn e d (.ref it) acc X.env = turnM e d tg it0 ifs (.ref it) acc X.env m) (T : Turn X.prog X.w X.K tg J fp it tn) (pg : PG X tg c.g) (pt : PTs X ifs c.tt) (pm : Does X c.vs m deed)
    {K : Shared → Prop} (I : Inv X pins τ G s) (st : tn 0 s.heap) (f : ∀ b ∈ fp, FpOk X pins G b) (q : tTurns c deed J N τ G) (k : ∀ G' s', Inv X pins (wipe τ c.vs) G' s' → N G' → K s') :
    codeAny (model X.prog X.w) X.A (.compLoop e d (.ref it) acc X.env) (fun r s' => match r with
      | .ok _ => K s'
      | .error _ => False) s := by
  obtain ⟨W, ⟨n0, w0⟩, turn⟩ := q
  have still : ∀ {G' : Hp}, (∀ b ∈ fp, G' b = none) → ∀ b ∈ fp, FpOk X pins G' b := fun hn b hb => ⟨hn b hb, (f b hb).2⟩
  refine codeAny_loop rfl (fun n s' => ∃ i G', Inv X pins (wipe τ c.vs) G' s' ∧ tn i s'.heap ∧ (∀ b ∈ fp, G' b = none) ∧ W i n G') (fun n s1 hI => ?_) n0 ⟨0, G, I.weak (wipe_length _ _) (fun j v z => (wipe_some z).1), st, fun b hb => (f b hb).1, w0⟩
  obtain ⟨i, G1, I1, st1, fr1, w1⟩ := hI
  rw [(he.loop X.prog X.w X.A d (.ref it) acc X.env).1, (he.loop X.prog X.w X.A d (.ref it) acc X.env).2]
  refine wpAny_noted ?_
  rw [ht]
  unfold turnM
  refine wpAny_bind (wpAny_standAt (wpAny_bind ?_))
  rcases turn i n G1 w1 with ⟨stop, nn⟩ | ⟨go, Z, hZ, step⟩
  · refine thnF (T.done X rfl rfl rfl hc i pins s1 _ G1 (fun _ _ => False) I1 (still fr1) st1 stop) fun r s2 ⟨hr, I2⟩ => ?_
    subst hr
    exact wpAny_pure (k G1 s2 I2 nn)
  · refine thnF (T.item X rfl rfl rfl hc i pins s1 _ G1 (fun _ _ => False) I1 (still fr1) st1 go) fun r s2 ⟨u, hr, h2⟩ => ?_
    subst hr
    refine wpAny_bind (thnF h2 fun _ s3 ⟨x, G3, I3, r3, y3, st3, fr3⟩ => ?_)
    have I3' := I3.pinned (still fr3) (T.obj _ _ st3)
    refine wpAny_bind (thnX hx (pg.run _ s3 _ G3 x u _ I3' r3 (step x G3 y3)) fun _ s4 ⟨τ4, G4, I4, hw4, q4⟩ => ?_)
    have back : ∀ {τ5 : L2.St} {G5 : Hp} {s5 : Shared}, Inv X (pins ++ pinsAt fp s3.heap) τ5 G5 s5 → τ5.length = τ4.length → (∀ (j : Nat) v, (wipe τ4 c.vs)[j]? = some (some v) → τ5[j]? = some (some v)) → Z G5 →
        ∃ n', n' < n ∧ ∃ i G', Inv X pins (wipe τ c.vs) G' s5 ∧ tn i s5.heap ∧ (∀ b ∈ fp, G' b = none) ∧ W i n' G' := fun {τ5 G5 s5} I5 hl hk z => by
      obtain ⟨n', hn, w'⟩ := hZ G5 z
      have pin' : ∀ b ∈ fp, ∀ o, s3.heap.get? b = some o → s5.heap.get? b = some o ∧ G5 b = none := fun b hb o eb =>
        have z := I5.pin (b, o) (List.mem_append_right _ (List.mem_append_right _ (mem_pinsAt hb eb)))
        ⟨z.1, z.2.1⟩
      refine ⟨n', hn, i + 1, G5, I5.unpinned.weak ?_ fun j v ev => hk j v (by rw [hw4]; exact ev), T.keep _ _ _ st3 fun b hb o eb => (pin' b hb o eb).1, fun b hb => ?_, w'⟩
      · rw [hl, ← hw4, wipe_length]
      · obtain ⟨o, eb, _⟩ := T.obj _ _ st3 b hb
        exact (pin' b hb o eb).2
    refine wpAny_bind (thnX hx (pt.run _ s4 τ4 G4 _ I4 q4) fun b s5 ⟨G5, I5, q5⟩ => ?_)
    cases b with
    | false =>
      simp only [Bool.false_eq_true, if_false] at q5
      exact wpAny_pure ⟨rfl, back I5 rfl (fun j v ev => (wipe_some ev).1) q5⟩
    | true =>
      simp only [if_true] at q5
      exact wpAny_bind (thnF (pm _ τ4 G5 s5 Z _ I5 q5 fun τ6 G6 s6 I6 hl hk z => back I6 hl hk z) fun _ s6 h6 => wpAny_pure ⟨rfl, h6⟩)
/-- a clause's start -/
theorem start_at (he : NoGen e) {R : Result → Shared → Prop} {g : Comprehension} {i : Value} (hg : (clausesOf e)[d]? = some g) (ha : g.is_async = 0) (h0 : codeAny (model X.prog X.w) X.A (.compLoop e d i acc X.env) R s)
    (h : wpAny (model X.prog X.w) X.A (pyIter i) (fun i' s' => codeAny (model X.prog X.w) X.A (.compLoop e d i' acc X.env) R s') (fun _ _ => False) s) : codeAny (model X.prog X.w) X.A (.compStart e d i acc X.env) R s := by
  refine codeAny_of_tree ?_
  rw [(he.start X.prog X.w X.A d i acc X.env).1, (he.start X.prog X.w X.A d i acc X.env).2]
  refine wpAny_notedAt ?_
  unfold compStart
  rw [hg]
  simp only [Option.elim, ha]
  rw [if_neg (by decide)]
  refine wpAny_bind (wpAny_askSetting (wpAny_ite ?_))
  split
  · first
      | exact wpAny_pure ⟨rfl, h0⟩
      | exact wpAny_bind (wpAny_pure (wpAny_pure ⟨rfl, h0⟩))
  · refine wpAny_bind (wpAny_rule ?_)
    refine wpAny_bind (wpAny_standAt ?_)
    exact wpAny_bind (thnF h fun i' s' h' => wpAny_pure ⟨rfl, h'⟩)
/-- the walk of a clause that stands within another one -/
def startM (e : Expr) (d : Nat) (it0 : Expr) (acc : Value) (env : Env) : Sem Unit := do
  let u ← eval it0 env
  standAt it0.pos
  let y ← foldedSetIterable it0 env u
  let _ ← runOwn (.compStart e d (← holding [y] (pyIter y)) acc env) env
theorem does_start {vs : List Nat} {g : Comprehension} {last : Deed} {cs : List Cla} (he : NoGen e) (hx : ∀ e s, ¬ X.xe e s) (hc : X.calm = true) (hg : (clausesOf e)[d]? = some g) (ha : g.is_async = 0) (hsub : ∀ i ∈ c.vs, i ∈ vs) (pi : PI X tg it0 c.wi) (hf : ∀ x, foldedSetIterable it0 X.env x = pure x)
    (ht : ∀ it, compTurn e d (.ref it) acc X.env = turnM e d tg it0 ifs (.ref it) acc X.env m) (pg : PG X tg c.g) (pt : PTs X ifs c.tt) (pm : Does X c.vs m (tCls last cs)) : Does X vs (startM e d it0 acc X.env) (tCls last (c :: cs)) := by
  intro pins τ G s N K I q k
  unfold startM
  have q : c.wi τ G (fun J G1 => tTurns c (tCls last cs) J N τ G1) := q
  refine wpAny_bind (thnX hx (pi.run pins s τ G _ I q) fun u s1 h1 => wpAny_bind (wpAny_standAt (wpAny_bind (wpAny_of_eq (hf u) (wpAny_bind (wpAny_holding (thnX hx h1 fun iv s2 h2 => ?_)))))))
  obtain ⟨it, fp, tn, J, G2, ei, I2, T, st, f, q2⟩ := h2
  subst ei
  have lp := loop_at he hx hc (ht it) T pg pt pm (K := K) I2 st f q2 fun G' s' I' n => k _ G' s' I' (wipe_length _ _) (fun j v z => by
    obtain ⟨z1, z2⟩ := wipe_some z
    rw [wipe_keep fun y => z2 (hsub j y)]
    exact z1) n
  refine wpAny_bind (wpAny_runOwn ?_)
  rw [Around.mark_none]
  refine codeAny_mono (start_at he hg ha lp (T.self X.A 0 _ _ _ st lp)) fun r s' hr => ?_
  cases r with
  | ok _ => exact wpAny_pure hr
  | error _ => exact hr.elim
/-! ### what a turn makes -/
def deedL (te : TE) (D : Addr) : Deed := fun τ G N => te τ G fun y G' => ∃ l, G' D = some (.lst l) ∧ l.length < sizeLine ∧ N (upd G' D (.lst (l ++ [y])))
def emitL (el : Expr) (acc : Value) (env : Env) : Sem Unit := do
  let _ ← call (.builtin "list.append") [acc, ← eval el env]
theorem does_list {vs : List Nat} {el : Expr} {te : TE} {D : Addr} (hx : ∀ e s, ¬ X.xe e s) (pe : PE X el te) : Does X vs (emitL el (.ref D) X.env) (deedL te D) := by
  intro pins τ G s N K I q k
  unfold emitL
  refine wpAny_bind (thnX hx (pe.run pins s τ G _ I q) fun u s1 ⟨y, G1, I1, r1, l, hD, hz, n⟩ => wpAny_bind ?_)
  exact app_ok I1 hD hz r1 fun s2 I2 => wpAny_pure (k τ _ s2 I2 rfl (fun j v z => (wipe_some z).1) n)
def deedD (tk tv : TE) (D : Addr) : Deed := fun τ G N => tk τ G fun y G1 => tv τ G1 fun z G2 => ∃ kvs b, y = kV b ∧ G2 D = some (.dK kvs) ∧ kvs.length < sizeLine ∧ N (upd G2 D (.dK (putK kvs b z)))
def emitD (kx vx : Expr) (acc : Value) (env : Env) : Sem Unit := do
  let a ← eval kx env
  let b ← holding [a] (eval vx env)
  match acc with
  | .ref D => do
    standAt { kx.pos with endLine := vx.pos.endLine, endCol := vx.pos.endCol }
    holding [a, b] (dictSet D a b)
  | _ => unsupported "internal:dictcomp"
theorem does_dict {vs : List Nat} {kx vx : Expr} {tk tv : TE} {D : Addr} (hx : ∀ e s, ¬ X.xe e s) (pk : PE X kx tk) (pv : PE X vx tv) : Does X vs (emitD kx vx (.ref D) X.env) (deedD tk tv D) := by
  intro pins τ G s N K I q k
  unfold emitD
  refine wpAny_bind (thnX hx (pk.run pins s τ G _ I q) fun u s1 ⟨y, G1, I1, r1, q1⟩ => wpAny_bind (wpAny_holding (thnX hx (pv.run pins s1 τ G1 _ I1 q1) fun w s2 ⟨z, G2, I2, r2, kvs, b, eb, hD, hz, n⟩ => ?_)))
  subst eb
  refine wpAny_bind (wpAny_standAt (wpAny_holding ?_))
  exact d_dictSet I2 hD hz r1 r2 fun s3 I3 => k τ _ s3 I3 rfl (fun j v z => (wipe_some z).1) n
end
/-! ### the whole -/
section
variable {X : Cx}
/-- what a new thing is -/
def NewOk (X : Cx) (newAcc : Sem Value) (o0 : HO) : Prop := ∀ (pins : List (Addr × PySem.Obj)) (τ : L2.St) (G : Hp) (s : Shared) (Q : Value → Shared → Prop) (E : Value → Shared → Prop), Inv X pins τ G s →
  (∀ s' D, Inv X pins τ (upd G D o0) s' → G D = none → s.heap.objs.size ≤ D → (∀ b o, s.heap.get? b = some o → s'.heap.get? b = some o) → s.heap.objs.size ≤ s'.heap.objs.size → Q (.ref D) s') → wpAny (model X.prog X.w) X.A newAcc Q E s
theorem new_list : NewOk X (newList []) (.lst []) := by
  intro pins τ G s Q E I k
  refine wpAny_newObj_type (k _ _ (I.laid (t' := s.toks) (fun b o z => Heap.get?_push_of_some _ z) (Nat.le_refl _) ⟨Nat.zero_le _, [], 0, .nil, Heap.get?_push_size _ rfl⟩) (I.hok.fresh (Nat.le_refl _)) (Nat.le_refl _) (fun b o z => Heap.get?_push_of_some _ z) ?_) (by show 0 ≤ sizeLine; decide)
  show _ ≤ (s.heap.push _).objs.size
  rw [Heap.size_push]
  exact Nat.le_succ _
theorem new_dict : NewOk X newDict (.dK []) := by
  intro pins τ G s Q E I k
  refine wpAny_newObj_type (k _ _ (I.laid (t' := s.toks) (fun b o z => Heap.get?_push_of_some _ z) (Nat.le_refl _) (dk_empty s.heap I.big)) (I.hok.fresh (Nat.le_refl _)) (Nat.le_refl _) (fun b o z => Heap.get?_push_of_some _ z) ?_)
  show _ ≤ (s.heap.push _).objs.size
  rw [Heap.size_push]
  exact Nat.le_succ _
abbrev blkX (X : Cx) (s : Shared) (H : Hp) (scope : Scope) (C : Addr) (cl : List (Str × Addr)) (fp : List Addr) : Cx := X.blk s H scope (compEnvC scope cl C X.env) fp
theorem made_core {pins : List (Addr × PySem.Obj)} {s : Shared} {τ : L2.St} {G : Hp} {Q : VK} {e tg it0 : Expr} {ifs : List Expr} {gs : List Comprehension} {scope : Scope} {own : List (Str × Nat)} {pos' : Pos} {c : Cla} {deed : Addr → Deed} {o0 : HO} {newAcc : Sem Value} {m : Value → Env → Sem Unit} {use : Option (Value → Sem Unit)} {Qf : Value → Shared → Prop}
    (he : NoGen e) (hcl : clausesOf e = ⟨tg, it0, ifs, 0⟩ :: gs) (hnew : NewOk X newAcc o0) (hc : X.calm = true) (hN : X.N.Nodup) (I : Inv X pins τ G s) (hi : PI X tg it0 c.wi) (ok : BlkOk X.N X.env.scope scope own) (hv : c.vs = own.map (·.2)) (hf : ∀ x, foldedSetIterable it0 X.env x = pure x)
    (ht : ∀ it acc env, compTurn e 0 it acc env = turnM e 0 tg it0 ifs it acc env (m acc env)) (hb : ∀ s H C cl fp, PG (blkX X s H scope C cl fp) tg c.g ∧ PTs (blkX X s H scope C cl fp) ifs c.tt ∧ ∀ D, Does (blkX X s H scope C cl fp) c.vs (m (.ref D) (blkX X s H scope C cl fp).env) (deed D))
    (q : tMade o0 c deed τ G Q)
    (hRR : ∀ D C s' mm G', Inv X pins τ G' s' → Q (.ref D) G' → s'.heap.Ns C mm → FpOk X pins G' C → compPost (model X.prog X.w) X.A X.xe use Qf (.ref D) C (.ok .next) s') :
    wpAny (model X.prog X.w) X.A (comprehension e scope X.env pos' newAcc false (eval it0 X.env) use) Qf X.xe s := by
  have free : ∀ y ∈ scope.names, y.2 = .free → ∃ cl, X.env.cells.lookup y.1 = some cl := fun y hy z => (ok.free y hy z).elim (fun k => I.ok.has _ (.inl k)) fun k => I.ok.has _ (.inr k)
  refine wpAny_comprehension_free hcl hf (closure_ok free) ok.kind (fun y hy z => by rw [ok.uniq y hy, z]) (thn (hi.run pins s τ G _ I q) fun u s1 h1 => thn h1 fun iv s2 h2 => ?_)
  obtain ⟨it, fp, tn, J, G2, ei, I2, T, st2, f2, q2⟩ := h2
  subst ei
  refine hnew pins τ G2 s2 _ _ I2 fun s3 D I3 nD lD kp sz3 => newEnv_comp ?_
  have q3 := q2 D nD
  have low : ∀ b ∈ fp, b < s2.heap.objs.size := fun b hb => let ⟨o, z, _⟩ := T.obj _ _ st2 b hb; Heap.lt_size z
  have f3 : ∀ b ∈ fp, FpOk X pins (upd G2 D o0) b ∧ b < s3.heap.objs.size := fun b hb => by
    have l := low b hb
    refine ⟨⟨?_, (f2 b hb).2⟩, Nat.lt_of_lt_of_le l sz3⟩
    rw [upd_ne fun z => absurd l (by rw [z]; exact Nat.not_lt.mpr lD)]
    exact (f2 b hb).1
  have st3 : tn 0 s3.heap := T.keep _ _ _ st2 fun b _ o z => kp b o z
  have I4 := block_start I3 ok hN f3
  obtain ⟨pg, pt, pm⟩ := hb s3 (upd G2 D o0) s3.heap.objs.size (cellsFrom (s3.heap.objs.size + 1) scope.names (cloFrom X.env.cells scope.names [])) fp
  have nfp : ∀ b ∈ fp, (upd G2 D o0) b = none := fun b hb => (f3 b hb).1.1
  have st4 : tn 0 (pushCells (s3.heap.push { cls := .type "dict", data := .dict #[] }) scope.names) := T.keep _ _ _ st3 fun b _ o z => pushCells_keeps _ _ _ _ (Heap.get?_push_of_some _ z)
  have f4 : ∀ b ∈ fp, FpOk (blkX X s3 (upd G2 D o0) scope s3.heap.objs.size (cellsFrom (s3.heap.objs.size + 1) scope.names (cloFrom X.env.cells scope.names [])) fp) [] (upd G2 D o0) b := fun b hb =>
    ⟨nfp b hb, (I4.ok.exf b hb).1, I4.ok.exfs b hb, .inl hb, fun x cc z => (I4.ok.exf b hb).2 x cc z, fun p hp => by simp at hp⟩
  have q4 : tTurns c (deed D) J (fun G => Q (.ref D) G) (wipe τ (own.map (·.2))) (upd G2 D o0) := by
    unfold tTurns at q3 ⊢
    rw [← hv, wipe_idem]
    exact q3
  have lp := loop_at (X := blkX X s3 (upd G2 D o0) scope s3.heap.objs.size (cellsFrom (s3.heap.objs.size + 1) scope.names (cloFrom X.env.cells scope.names [])) fp) (e := e) (d := 0) (acc := .ref D) he (fun _ _ z => z) hc (ht _ _ _) T pg pt (pm D)
    (K := fun s' => compPost (model X.prog X.w) X.A X.xe use Qf (.ref D) s3.heap.objs.size (.ok .next) s') I4 st4 f4 q4 fun G' s' I' n => by
      have I7 : Inv X pins τ G' s' := I3.call' (ch := fp) I'.os I'.base I'.hok I'.bare fun b hb => ⟨(f3 b hb).1.2.2.2.1, (f3 b hb).1.2.1, (f3 b hb).1.2.2.2.2.1, (f3 b hb).1.2.2.2.2.2⟩
      obtain ⟨mm, hn, _⟩ := I'.loc
      exact hRR D s3.heap.objs.size s' mm G' I7 n hn (I3.fpOk (Nat.le_refl _) I'.free)
  have sp := start_at (X := blkX X s3 (upd G2 D o0) scope s3.heap.objs.size (cellsFrom (s3.heap.objs.size + 1) scope.names (cloFrom X.env.cells scope.names [])) fp) (e := e) (d := 0) (acc := .ref D) (i := .ref it) (g := ⟨tg, it0, ifs, 0⟩) he (by rw [hcl]; rfl) rfl lp (T.self _ 0 _ _ _ st4 lp)
  refine codeAny_mono sp fun r s' hr => ?_
  cases r with
  | ok f => cases use <;> exact hr
  | error _ => exact hr.elim
/-- as a value -/
theorem pe_made {e tg it0 : Expr} {ifs : List Expr} {gs : List Comprehension} {scope : Scope} {own : List (Str × Nat)} {pos' : Pos} {c : Cla} {deed : Addr → Deed} {o0 : HO} {newAcc : Sem Value} {m : Value → Env → Sem Unit}
    (he : NoGen e) (hev : eval e X.env = comprehension e scope X.env pos' newAcc false (eval it0 X.env) none) (hcl : clausesOf e = ⟨tg, it0, ifs, 0⟩ :: gs) (hnew : NewOk X newAcc o0) (hc : X.calm = true) (hN : X.N.Nodup) (hi : PI X tg it0 c.wi) (ok : BlkOk X.N X.env.scope scope own) (hv : c.vs = own.map (·.2)) (hf : ∀ x, foldedSetIterable it0 X.env x = pure x)
    (ht : ∀ it acc env, compTurn e 0 it acc env = turnM e 0 tg it0 ifs it acc env (m acc env)) (hb : ∀ s H C cl fp, PG (blkX X s H scope C cl fp) tg c.g ∧ PTs (blkX X s H scope C cl fp) ifs c.tt ∧ ∀ D, Does (blkX X s H scope C cl fp) c.vs (m (.ref D) (blkX X s H scope C cl fp).env) (deed D)) :
    PE X e (tMade o0 c deed) := by
  refine ⟨fun pins s τ G Q I q => ?_⟩
  rw [hev]
  refine made_core he hcl hnew hc hN I hi ok hv hf ht hb q fun D C s' mm G' I' z hn f => ⟨mm, hn, fun h2 sb => ?_⟩
  obtain ⟨f0, f1, f2, f3, f4, f5⟩ := f
  exact ⟨.ref D, G', I'.turned (t' := s'.toks) (fun b o hb z => (sb.2 b hb).trans z) f0 f1 f3 f4 f5, rfl, z⟩
/-- a name gets it -/
theorem ps_setMade {i : Nat} {y : Str} {py spos : Pos} {e tg it0 : Expr} {ifs : List Expr} {gs : List Comprehension} {scope : Scope} {own : List (Str × Nat)} {pos' : Pos} {c : Cla} {deed : Addr → Deed} {o0 : HO} {newAcc : Sem Value} {m : Value → Env → Sem Unit}
    (he : NoGen e) (hy : X.N[i]? = some y) (hyl : X.env.scope.names.lookup y = some .local) (hsw : swapsWith e (some (.Name y py)) spos.line X.env = pure true) (hev : ∀ use, evalThenUse e X.env use = (do let _ ← comprehension e scope X.env pos' newAcc false (eval it0 X.env) (some use)))
    (hcl : clausesOf e = ⟨tg, it0, ifs, 0⟩ :: gs) (hnew : NewOk X newAcc o0) (hc : X.calm = true) (hN : X.N.Nodup) (hi : PI X tg it0 c.wi) (ok : BlkOk X.N X.env.scope scope own) (hv : c.vs = own.map (·.2)) (hf : ∀ x, foldedSetIterable it0 X.env x = pure x)
    (ht : ∀ it acc env, compTurn e 0 it acc env = turnM e 0 tg it0 ifs it acc env (m acc env)) (hb : ∀ s H C cl fp, PG (blkX X s H scope C cl fp) tg c.g ∧ PTs (blkX X s H scope C cl fp) ifs c.tt ∧ ∀ D, Does (blkX X s H scope C cl fp) c.vs (m (.ref D) (blkX X s H scope C cl fp).env) (deed D)) :
    PS X (.Assign [.Name y py] e spos) (tAsg (tMade o0 c deed) (gName i)) := by
  refine ⟨fun pins s τ G D I q => ?_⟩
  rw [exec_Assign_Name_used _ _ _ _ hsw, hev]
  have q : tMade o0 c deed τ G (fun x G1 => gName i x τ G1 D.nx) := q
  refine wpAny_bind (wpAny_standAt (wpAny_bind (wpAny_bind (thn (made_core (Qf := fun _ s' => SP X pins D .next s') he hcl hnew hc hN I hi ok hv hf ht hb q fun L C s' mm G' I' z hn f => ?_) fun _ s' hq => wpAny_pure (wpAny_pure hq)))))
  show wpAny _ _ (assign (.Name y py) X.env (.ref L)) _ _ _
  refine wpAny_assign_Name (store_ok2 (v := V.ref L) I' hN hy (.inl hyl) rfl (fun s2 I2 ⟨a, sb, ha⟩ => ?_) (.inr hyl))
  obtain ⟨f0, f1, f2, f3, f4, f5⟩ := f
  have ne : C ≠ a := ha.elim (fun w => by rw [w]; exact f1) fun w z => f4 y a w z.symm
  exact ⟨mm, hn.sameBut sb ne, fun h3 sb3 => ⟨_, G', I2.turned (t' := s2.toks) (fun b o hb z => (sb3.2 b hb).trans z) f0 f1 f3 f4 f5, z⟩⟩
end
end M
namespace M
open PySem PySem.Spec PyProof.Rows L2
/-! ### comprehensions of any number of clauses, in small -/
/-- what stands at the new thing's place, for what was made so far -/
structure AccK where
  rel : RS → HO → List Val → Prop
  ext : ∀ {S S' : RS} {o : HO} {us : List Val}, Ext S S' → rel S o us → rel S' o us
  ok : List Val → Prop
  pre : ∀ {us a : List Val}, ok (us ++ a) → ok us
def accL : AccK := ⟨fun S o us => ∃ ys, o = .lst ys ∧ Rels S us ys, fun e ⟨ys, h, r⟩ => ⟨ys, h, r.ext e⟩, fun us => us.length ≤ SL, fun h => by rw [List.length_append] at h; omega⟩
def AccD (S : RS) (o : HO) (us : List Val) : Prop := ∃ (kvs : List (Key × V)) (ks vs : List Val), o = .dK kvs ∧ dictP us = some (ks, vs) ∧ ks.length ≤ us.length ∧ Rels S ks (kvs.map fun p => kV p.1) ∧ Rels S vs (kvs.map Prod.snd)
theorem AccD.ext {S S' : RS} {o : HO} {us : List Val} (e : Ext S S') (h : AccD S o us) : AccD S' o us := by
  obtain ⟨kvs, ks, vs, h1, h2, h3, r1, r2⟩ := h
  exact ⟨kvs, ks, vs, h1, h2, h3, r1.ext e, r2.ext e⟩
theorem put_none : ∀ {a : List Val}, a.foldl putP none = none
  | [] => rfl
  | _ :: r => put_none (a := r)
theorem dictP_pre {us a : List Val} (h : (dictP (us ++ a)).isSome = true) : (dictP us).isSome = true := by
  unfold dictP at h ⊢
  rw [List.foldl_append] at h
  cases e : us.foldl putP (some ([], [])) with
  | some _ => rfl
  | none => rw [e, put_none] at h; cases h
theorem dictP_snoc {us : List Val} {x : Val} : dictP (us ++ [x]) = putP (dictP us) x := by
  unfold dictP
  rw [List.foldl_append]
  rfl
def accD : AccK := ⟨AccD, AccD.ext, fun us => us.length ≤ SL ∧ (dictP us).isSome = true, fun h => ⟨by have := h.1; rw [List.length_append] at this; omega, dictP_pre h.2⟩⟩
section
variable {X : Cx} {D : Addr} {A : AccK}
/-- where a turn is to come to -/
def StA (D : Addr) (A : AccK) (S0 Sb S1 : RS) (cont : List Val → Heap → Res Val) (Q : VK) (G : Hp) : Prop := ∃ (S' : RS) (us : List Val) (o : HO), S'.H = G ∧ Good S' ∧ Ext S0 S' ∧ ExtW Sb S' ∧ D ∈ S'.own ∧ S'.H D = some o ∧ A.rel S' o us ∧ Post S1 (cont us S'.h) Q
/-- a piece in small, and what is to be done -/
def DeedM (X : Cx) (D : Addr) (A : AccK) (f : Loc → Heap → Res (List Val)) (deed : Deed) : Prop := ∀ (S0 Sb S1 S : RS) (Q : VK) (cont : List Val → Heap → Res Val) (ls : Loc) (τ : L2.St) (us : List Val) (o : HO), (∀ us h, Post S1 (cont us h) Q → A.ok us) →
  S0.H D = none → D ∈ Sb.own → S.K = X.K → Good S → Ext S0 S → ExtW Sb S → LRel S ls τ → D ∈ S.own → S.H D = some o → A.rel S o us → Post S1 ((f ls S.h).bind fun a h => cont (us ++ a) h) Q → deed τ S.H (StA D A S0 Sb S1 cont Q)
def stepG (t : Tg) (own : List Nat) (fc : Loc → Heap → Res Bool) (f : Loc → Heap → Res (List Val)) (ls : Loc) : Val → Heap → Res (List Val) := fun v h => match setTg t v (killL own ls) with
  | some ls => (fc ls h).bind fun b h => if b then f ls h else .ok [] h
  | none => .stuck
theorem room_turns {pin : Pin} {step : Val → Heap → Res (List Val)} {S1 : RS} {Q : VK} {cont : List Val → Heap → Res Val} (hr : ∀ us h, Post S1 (cont us h) Q → A.ok us) : ∀ {l : List Val} {h : Heap} {us : List Val}, Post S1 ((turns pin step l h).bind fun a h => cont (us ++ a) h) Q → A.ok us
  | [], h, us, p => by
    unfold turns at p
    split at p
    · have := hr _ _ (show Post S1 (cont (us ++ []) h) Q from p)
      simpa using this
    · exact p.elim
  | v :: r, h, us, p => by
    unfold turns at p
    split at p
    · cases e : step v h with
      | ok a h1 =>
        rw [e] at p
        simp only [bind_ok] at p
        have p : Post S1 ((turns pin step r h1).bind fun b h => cont ((us ++ a) ++ b) h) Q := by
          cases e2 : turns pin step r h1 with
          | ok b h2 => rw [e2] at p; simp only [bind_ok] at p ⊢; rw [List.append_assoc]; exact p
          | exc _ _ => rw [e2] at p; exact p
          | stuck => rw [e2] at p; exact p
        exact A.pre (room_turns hr p)
      | exc _ _ => rw [e] at p; exact p.elim
      | stuck => rw [e] at p; exact p.elim
    · exact p.elim
/-- the turns of a clause -/
theorem turns_M {fc : Loc → Heap → Res Bool} {f : Loc → Heap → Res (List Val)} {t : Tg} {own : List Nat} {c : Cla} {deed : Deed} {J : It} {items : List Val} {pin : Pin} {S0 Sb S1 S : RS} {Q : VK} {cont : List Val → Heap → Res Val} {ls : Loc} {τ : L2.St} {us : List Val} {o : HO}
    (hg : GOk X.K t c.g) (htt : c.tt = tB X.K fc) (hv : c.vs = own) (ho : ∀ i ∈ t.slots, i ∈ own) (hd : DeedM X D A f deed) (hr : ∀ us h, Post S1 (cont us h) Q → A.ok us)
    (n0 : S0.H D = none) (hDb : D ∈ Sb.own) (hK : S.K = X.K) (g : Good S) (e0 : Ext S0 S) (eb : ExtW Sb S) (l : LRel S ls τ) (hD : D ∈ S.own) (hH : S.H D = some o) (ra : A.rel S o us) (hJ : RI S (items, pin) J)
    (p : Post S1 ((turns pin (stepG t own fc f ls) items S.h).bind fun a h => cont (us ++ a) h) Q) : tTurns c deed J (StA D A S0 Sb S1 cont Q) τ S.H := by
  refine ⟨fun i n G => ∃ (S' : RS) (us' : List Val) (o' : HO), S'.H = G ∧ Good S' ∧ Ext S0 S' ∧ ExtW S S' ∧ D ∈ S'.own ∧ S'.H D = some o' ∧ A.rel S' o' us' ∧ n = items.length - i ∧ i ≤ items.length ∧ Post S1 ((turns pin (stepG t own fc f ls) (items.drop i) S'.h).bind fun a h => cont (us' ++ a) h) Q,
    ⟨_, S, us, o, rfl, g, e0, Ext.refl.w, hD, hH, ra, rfl, Nat.zero_le _, p⟩, ?_⟩
  rintro i n G ⟨S', us', o', rfl, g', f', e', hD', hH', ra', rfl, hi, p⟩
  rcases Nat.lt_or_ge i items.length with hlt | hge
  · refine .inr ?_
    have ed : items.drop i = items[i] :: items.drop (i + 1) := List.drop_eq_getElem_cons hlt
    have ei : items[i]? = some items[i] := List.getElem?_eq_getElem hlt
    generalize items[i] = v at ed ei
    rw [ed] at p
    unfold turns at p
    by_cases hp : pinned S'.h pin = true
    · rw [if_pos hp] at p
      obtain ⟨go, yl⟩ := (hJ S' e' g' hp i).1 v ei
      refine ⟨go, StA D A S0 S S1 (fun us h => (turns pin (stepG t own fc f ls) (items.drop (i + 1)) h).bind fun a h => cont (us ++ a) h) Q, fun G' ⟨T, ut, ot, a1, a2, a3, a4, a5, a6, a7, a8⟩ => ⟨_, by omega, T, ut, ot, a1, a2, a3, a4, a5, a6, a7, rfl, hlt, a8⟩, fun x G' y => ?_⟩
      obtain ⟨S3, rfl, h3, g3, e3, r3⟩ := yl x G' y
      rw [← h3] at p
      have e13 := e'.trans e3.w
      have f13 := f'.trans e3
      cases es : setTg t v (killL own ls) with
      | none =>
        unfold stepG at p
        rw [es] at p
        exact p.elim
      | some ls' =>
        have q0 : stepG t own fc f ls v S3.h = (fc ls' S3.h).bind fun b h => if b then f ls' h else .ok [] h := by
          unfold stepG
          rw [es]
        have p : Post S1 ((fc ls' S3.h).bind fun b h => (if b then f ls' h else .ok [] h : Res (List Val)).bind fun a h => (turns pin (stepG t own fc f ls) (items.drop (i + 1)) h).bind fun w h => cont ((us' ++ a) ++ w) h) Q := by
          rw [q0] at p
          cases ec : fc ls' S3.h with
          | ok b h =>
            rw [ec] at p
            simp only [bind_ok] at p ⊢
            cases ef : (if b then f ls' h else .ok [] h : Res (List Val)) with
            | ok a h1 =>
              rw [ef] at p
              simp only [bind_ok] at p ⊢
              cases et : turns pin (stepG t own fc f ls) (items.drop (i + 1)) h1 with
              | ok w h2 => rw [et] at p; simp only [bind_ok] at p ⊢; rw [List.append_assoc]; exact p
              | exc _ _ => rw [et] at p; exact p
              | stuck => rw [et] at p; exact p
            | exc _ _ => rw [ef] at p; exact p
            | stuck => rw [ef] at p; exact p
          | exc _ _ => rw [ec] at p; exact p
          | stuck => rw [ec] at p; exact p
        rw [hv]
        refine hg S3 v x (killL own ls) ls' (wipe τ own) _ (e13.K.trans hK) g3 ((l.extW e13).wiped own) r3 es fun τ2 l2 hw => ⟨by rw [hw own ho, wipe_idem], ?_⟩
        rw [htt]
        refine ⟨S3, ls', e13.K.trans hK, rfl, g3, l2, ?_⟩
        refine PostG.bind2 p fun b c S4 g4 e4 rb p4 => ?_
        cases rb
        have e14 := e13.trans e4.w
        have f14 := f13.trans e4
        have hD4 : D ∈ S4.own := e4.sub D (e3.sub D hD')
        have hH4 : S4.H D = some o' := e4.kow D _ (e3.sub D hD') (e3.kow D _ hD' hH')
        have ra4 := A.ext e4 (A.ext e3 ra')
        have hr2 : ∀ us h, Post S1 ((turns pin (stepG t own fc f ls) (items.drop (i + 1)) h).bind fun a h => cont (us ++ a) h) Q → A.ok us := fun us h z => room_turns hr z
        cases b with
        | false =>
          simp only [Bool.false_eq_true, if_false, bind_ok, List.append_nil] at p4 ⊢
          exact ⟨S4, us', o', rfl, g4, f14, e14, hD4, hH4, ra4, p4⟩
        | true =>
          simp only [if_true] at p4 ⊢
          exact hd S0 S S1 S4 Q _ ls' τ2 us' o' hr2 n0 hD (e14.K.trans hK) g4 f14 e14 (l2.ext e4) hD4 hH4 ra4 p4
    · rw [if_neg hp] at p
      exact p.elim
  · refine .inl ?_
    rw [List.drop_eq_nil_of_le hge] at p
    unfold turns at p
    by_cases hp : pinned S'.h pin = true
    · rw [if_pos hp] at p
      simp only [bind_ok, List.append_nil] at p
      exact ⟨(hJ S' e' g' hp i).2 (List.getElem?_eq_none hge), S', us', o', rfl, g', f', eb.trans e', hD', hH', ra', p⟩
    · rw [if_neg hp] at p
      exact p.elim
end
end M
namespace M
open PySem PySem.Spec PyProof.Rows L2
/-! ### tables -/
def binOf : Operator → Option P
  | .Add => some .add
  | .Sub => some .sub
  | .Mult => some .mul
  | .FloorDiv => some .fdiv
  | .Mod => some .mod
  | .Pow => some .pow
  | _ => none
def cmpOf : CmpOp → Option P
  | .Eq => some .eq
  | .NotEq => some .ne
  | .Lt => some .lt
  | .LtE => some .le
  | .Gt => some .gt
  | .GtE => some .ge
  | .In => some .mem
  | .NotIn => some .notmem
  | _ => none
def isOf1 : CmpOp → Expr → Option P
  | .Is, .Constant .none _ _ => some .isNone
  | .IsNot, .Constant .none _ _ => some .isNotNone
  | .Is, .Constant (.bool true) _ _ => some .isTrue
  | .Is, .Constant (.bool false) _ _ => some .isFalse
  | .IsNot, .Constant (.bool true) _ _ => some .isNotTrue
  | .IsNot, .Constant (.bool false) _ _ => some .isNotFalse
  | _, _ => none
def bltN : P → Option (Str × Bool × String)
  | .len => some ("len", false, "len")
  | .all => some ("all", false, "all")
  | .any => some ("any", false, "any")
  | .sum => some ("sum", false, "sum")
  | .repr => some ("repr", false, "repr")
  | .ord => some ("ord", false, "ord")
  | .sortD => some ("sorted", false, "sorted")
  | .min2 => some ("min", false, "min")
  | .min1 => some ("min", false, "min")
  | .max2 => some ("max", false, "max")
  | .max1 => some ("max", false, "max")
  | .int => some ("int", true, "int")
  | .str => some ("str", true, "str")
  | .listOf _ => some ("list", true, "list")
  | .tupOf => some ("tuple", true, "tuple")
  | .minD => some ("min", false, "min")
  | .sortL _ => some ("sorted", false, "sorted")
  | _ => none
def mthN : P → Option (Str × String)
  | .append => some ("append", "list")
  | .pop => some ("pop", "list")
  | .popAt => some ("pop", "list")
  | .extend => some ("extend", "list")
  | .join => some ("join", "str")
  | .upper => some ("upper", "str")
  | .count => some ("count", "str")
  | .sindex => some ("index", "str")
  | _ => none
section
variable {X : Cx} {c : Ck} {k : Nat} {cl : CallFn}
def binAddm (op : Operator) (p : P) : Bool := match op, p with
  | .Add, .addm => true
  | .Mult, .mulm => true
  | _, _ => false
def binOk (op : Operator) (p : P) : Bool := decide (binOf op = some p) || binAddm op p
theorem bin_ok {op : Operator} {p : P} (h : binOk op p = true) : ∃ r, OpR X (binaryOp op) r ∧ PR2 X p r := by
  rcases Bool.or_eq_true_iff.mp h with h | h
  · have h := of_decide_eq_true h
    cases op <;> cases h
    · exact ⟨_, op_addAll, pr_add⟩
    · exact ⟨_, op_subN, pr_sub⟩
    · exact ⟨_, op_mulA, pr_mul⟩
    · exact ⟨_, op_mod, pr_mod⟩
    · exact ⟨_, op_pow, pr_pow⟩
    · exact ⟨_, op_fdiv, pr_fdiv⟩
  · unfold binAddm at h
    split at h
    · exact ⟨_, op_addAll, pr_addm⟩
    · exact ⟨_, op_rep, pr_mulm⟩
    · cases h
theorem optB_bool {o : Option Bool} {h h' : Heap} {v : Val} (e : optB o h = .ok v h') : ∃ b, v = .bool b := by
  cases o with
  | none => cases e
  | some b => cases e; exact ⟨b, rfl⟩
theorem cmp_ok (hu : X.A.units + 65 < cLine) {op : CmpOp} {p : P} (h : cmpOf op = some p) : (∃ r, OpR X (compareOp op) r ∧ PR2 X p r) ∧ ∀ v w h h' u, evP p [v, w] h = .ok u h' → ∃ b, u = .bool b := by
  cases op <;> cases h
  · exact ⟨⟨_, op_eqB (by omega), pr_eq⟩, fun v w h h' u e => optB_bool e⟩
  · exact ⟨⟨_, op_neB (by omega), pr_ne⟩, fun v w h h' u e => optB_bool e⟩
  · exact ⟨⟨_, op_ltO, pr_lt⟩, fun v w h h' u e => optB_bool e⟩
  · exact ⟨⟨_, op_leO, pr_le⟩, fun v w h h' u e => optB_bool e⟩
  · exact ⟨⟨_, op_gtO, pr_gt⟩, fun v w h h' u e => optB_bool e⟩
  · exact ⟨⟨_, op_geO, pr_ge⟩, fun v w h h' u e => optB_bool e⟩
  · exact ⟨⟨_, op_inA hu, pr_mem⟩, fun v w h h' u e => optB_bool e⟩
  · exact ⟨⟨_, op_notInA hu, pr_notmem⟩, fun v w h h' u e => optB_bool e⟩
theorem bool1_bool {a : Val} {f : Bool → Bool} {h h' : Heap} {u : Val} (e : bool1 a (fun b => .ok (.bool (f b)) h) = .ok u h') : ∃ b, u = .bool b := by
  cases a with
  | bool b => cases e; exact ⟨_, rfl⟩
  | _ => cases e
theorem is_ok {op : CmpOp} {b : Expr} {p : P} (h : isOf1 op b = some p) : (∃ r y, OpR X (compareOp op) r ∧ PE X b (tC y) ∧ PR1 X p (fun x H Q => r x y H Q)) ∧ ∀ v h h' u, evP p [v] h = .ok u h' → ∃ b, u = .bool b := by
  unfold isOf1 at h
  split at h <;> cases h
  · exact ⟨⟨_, .non, op_isN, pe_non, fun S v x Q hK g r p => ⟨rfl, p1_isNone S v x Q hK g r p⟩⟩, fun v h h' u e => by cases e; exact ⟨_, rfl⟩⟩
  · exact ⟨⟨_, .non, op_notN, pe_non, fun S v x Q hK g r p => ⟨rfl, p1_isNotNone S v x Q hK g r p⟩⟩, fun v h h' u e => by cases e; exact ⟨_, rfl⟩⟩
  · exact ⟨⟨_, .bl true, op_isBl, pe_bl, p1_isTrue⟩, fun v h h' u e => bool1_bool (f := fun b => b) e⟩
  · exact ⟨⟨_, .bl false, op_isBl, pe_bl, p1_isFalse⟩, fun v h h' u e => bool1_bool (f := fun b => !b) e⟩
  · exact ⟨⟨_, .bl true, op_notBl, pe_bl, p1_isNotTrue⟩, fun v h h' u e => bool1_bool (f := fun b => !b) e⟩
  · exact ⟨⟨_, .bl false, op_notBl, pe_bl, p1_isNotFalse⟩, fun v h h' u e => bool1_bool (f := fun b => b) e⟩
theorem boot_sorted1 : bootBuiltins "sorted" = some (.builtin "sorted") := by decide +kernel
theorem boot_len1 : bootBuiltins "len" = some (.builtin "len") := by decide +kernel
theorem blt_ok (F : CF X c k cl) {p : P} {nm : Str} {ty : Bool} {id : String} (h : bltN p = some (nm, ty, id)) :
    ∃ r, PRc X p r ∧ ((ty = false ∧ CallR X (.builtin id) r ∧ bootBuiltins nm = some (.builtin id)) ∨ (ty = true ∧ CallR X (.type id) r ∧ bootBuiltins nm = some (.type id))) := by
  cases p <;> cases h
  · exact ⟨_, pr_sortD, .inl ⟨rfl, call_sortedD F.calm, boot_sorted1⟩⟩
  · exact ⟨_, pr_len, .inl ⟨rfl, call_lenA, boot_len1⟩⟩
  · exact ⟨_, pr_all, .inl ⟨rfl, cr_all F.calm, boot_all⟩⟩
  · exact ⟨_, pr_any, .inl ⟨rfl, cr_any F.calm, boot_any⟩⟩
  · exact ⟨_, pr_sum, .inl ⟨rfl, cr_sumA F.calm, boot_sum⟩⟩
  · exact ⟨_, pr_int, .inr ⟨rfl, call_int1, boot_int⟩⟩
  · exact ⟨_, pr_str, .inr ⟨rfl, call_str1, boot_str⟩⟩
  · exact ⟨_, pr_repr F.sys, .inl ⟨rfl, call_reprA F.guards F.units, boot_repr⟩⟩
  · exact ⟨_, pr_ord, .inl ⟨rfl, call_ord, boot_ord⟩⟩
  · exact ⟨_, pr_listOf, .inr ⟨rfl, call_list_of, boot_list⟩⟩
  · exact ⟨_, pr_tupOf, .inr ⟨rfl, call_tuple_of, boot_tuple⟩⟩
  · exact ⟨_, pr_min2, .inl ⟨rfl, call_min2 F.calm, boot_min⟩⟩
  · exact ⟨_, pr_max2, .inl ⟨rfl, call_max2 F.calm, boot_max⟩⟩
  · exact ⟨_, pr_min1, .inl ⟨rfl, cr_min F.calm, boot_min⟩⟩
  · exact ⟨_, pr_max1, .inl ⟨rfl, cr_max F.calm, boot_max⟩⟩
  · exact ⟨_, pr_minD, .inl ⟨rfl, cr_minD F.calm (by have := F.units2; omega), boot_min⟩⟩
  · exact ⟨_, pr_sortL, .inl ⟨rfl, cr_sortG F.calm F.units2, boot_sorted1⟩⟩
theorem mth_ok {p : P} {nm : Str} {T : String} (h : mthN p = some (nm, T)) :
    ∃ id r, PlainAttrs T ∧ Slot T nm id ∧ typeOf (.builtin id) = pure (.type "method_descriptor") ∧ MtR X id r ∧ PRm X p T r ∧ ∀ {S : RS} {v : Val} {x : V}, Good S → Rel S v x → recv p v S.h = true → tyV S.K T x S.H := by
  cases p <;> cases h
  · exact ⟨_, _, F.plainAttrs_str, F.slot_str_join, F.type_str_join, mt_join, pm_join, fun g r e => recv_str r e⟩
  · exact ⟨_, _, F.plainAttrs_str, F.slot_str_upper, F.type_str_upper, mt_upper, pm_upper, fun g r e => recv_str r e⟩
  · exact ⟨_, _, F.plainAttrs_str, F.slot_str_count, F.type_str_count, mt_count, pm_count, fun g r e => recv_str r e⟩
  · exact ⟨_, _, F.plainAttrs_list, F.slot_list_append, F.type_list_append, mt_append, pm_append, fun g r e => recv_lst g r e⟩
  · exact ⟨_, _, F.plainAttrs_list, F.slot_list_pop, F.type_list_pop, mt_pop, pm_pop, fun g r e => recv_lst g r e⟩
  · exact ⟨_, _, F.plainAttrs_list, F.slot_list_pop, F.type_list_pop, mt_popAt, pm_popAt, fun g r e => recv_lst g r e⟩
  · exact ⟨_, _, F.plainAttrs_list, F.slot_list_extend, F.type_list_extend, mt_extend, pm_extend, fun g r e => recv_lst g r e⟩
  · exact ⟨_, _, F.plainAttrs_str, F.slot_str_index, F.type_str_index, mt_sindex, pm_sindex, fun g r e => recv_str r e⟩
end
end M
namespace M
open PySem PySem.Spec PyProof.Rows L2
/-- x[::-1], by values -/
def RvR (X : Cx) (r : V → Hp → VK → Prop) : Prop :=
  ∀ (pins : List (Addr × PySem.Obj)) (s : Shared) (σ : L2.St) (H : Hp) (x : V) (v vl vu vs : Value) (sl : Addr) (Q : VK), Inv X pins σ H s → RelV x v → s.heap.IsSliceOf sl vl vu vs → IsPart vl none → IsPart vu none → IsPart vs (some (-1)) → r x H Q →
    ∃ T id, typeLookup (.type T) "__getitem__" = pure (some (.builtin id)) ∧ s.TypeIs v T ∧ wpAny (model X.prog X.w) X.A (getItem v (.ref sl)) (EP X pins σ Q) X.xe s
section
variable {X : Cx}
theorem RvR.or {r r' : V → Hp → VK → Prop} (h : RvR X r) (h' : RvR X r') : RvR X (fun x H Q => r x H Q ∨ r' x H Q) := fun pins s σ H x v vl vu vs sl Q I rx hs pl pu ps q =>
  q.elim (h pins s σ H x v vl vu vs sl Q I rx hs pl pu ps) (h' pins s σ H x v vl vu vs sl Q I rx hs pl pu ps)
theorem pe_revG {r : V → Hp → VK → Prop} {e : Expr} {te : TE} {j : Nat} {p1 p2 p3 pos : Pos} (hr : RvR X r) (he : PE X e te) :
    PE X (.Subscript e (.Slice none none (some (.UnaryOp .USub (.Constant (.int 1) j p1) p2)) p3) pos) (fun σ H Q => te σ H fun x H1 => r x H1 Q) := by
  refine ⟨fun pins s σ H Q I hq => ?_⟩
  refine Subscript_ (thn (he.run pins s σ H _ I hq) fun v sa ⟨x, Ha, Ia, ra, qa⟩ => ?_)
  have step : PO X (some (.UnaryOp .USub (.Constant (.int 1) j p1) p2)) (tPart (tUn (rU fun i => .int (-i)) (tC (.int 1)))) := po_some (pe_un un_neg pe_int)
  refine wpAny_Slice (thn (po_none.run pins sa σ Ha (fun o Hb => o = none ∧ Hb = Ha) Ia ⟨rfl, rfl⟩) fun vl sb ⟨l, Hb, Ib, pl, el, eb⟩ => ?_)
  subst el eb
  refine thn (po_none.run pins sb σ Hb (fun o Hc => o = none ∧ Hc = Hb) Ib ⟨rfl, rfl⟩) fun vu sc ⟨u, Hc, Ic, pu, eu, ec⟩ => ?_
  subst eu ec
  refine thn (step.run pins sc σ Hc (fun o Hd => o = some (-1) ∧ Hd = Hc) Ic ⟨1, rfl, -1, rfl, rfl, rfl⟩) fun vs sd ⟨o, Hd, Id, ps, eo, ed⟩ => ?_
  subst eo ed
  have Ie : Inv X pins σ Hd { sd with heap := sd.heap.push { cls := .type "slice", data := .fields #[vl, vu, vs] } } := Id.kept (t' := sd.toks) fun b ob z => Heap.get?_push_of_some _ z
  obtain ⟨T, id, hT, ht, hg⟩ := hr pins _ σ Hd x v vl vu vs sd.heap.objs.size Q Ie ra (Heap.IsSliceOf.new ..) pl pu ps qa
  exact tail_any ht hT hg (ops := [v, .ref sd.heap.objs.size]) (by with_unfolding_all rfl)
def rRevL (K : PySem.W.Frag) : V → Hp → VK → Prop := fun x H Q => ∃ a xs, x = .ref a ∧ SqL K H a xs ∧ ∀ p, H p = none → Q (.ref p) (upd H p (.lst xs.reverse))
theorem rv_list : RvR X (rRevL X.K) := fun pins s σ H x v vl vu vs sl Q I rx hs pl pu ps q => by
  obtain ⟨a, xs, rfl, hx, q⟩ := q
  cases rx
  obtain ⟨its, r, ht, hz⟩ := I.list hx
  have hlen := r.length
  refine ⟨"list", _, PySem.slot_list_getitem.lookup, ht.isList.typeIs, ?_⟩
  refine wpAny_getItem_list_slice ht.isList hs pl pu ps (by decide) ?_ (by rw [List.size_toArray]; omega)
  rw [PySem.W.krv_pick]
  refine ⟨.ref _, _, I.laid (t' := s.toks) (o := .lst xs.reverse) (fun b ob z => Heap.get?_push_of_some _ z) (Nat.le_refl _) ?_, rfl, q _ (I.hok.fresh (Nat.le_refl _))⟩
  exact ⟨by rw [List.length_reverse]; exact hz, _, 0, r.reverse, Heap.get?_push_size _ rfl⟩
def rRevS : V → Hp → VK → Prop := fun x H Q => ∃ z : Str, x = .str z ∧ z.length ≤ sizeLine ∧ Q (.str (toS z.cps.toList.reverse)) H
theorem rev_picked (z : Str) (t : Tok) : (slicePicked z none none (some (-1, t))).filterMap (z.cps[·]?) = z.cps.toList.reverse := by
  have e : slicePicked z none none (some (-1, t)) = (List.range z.cps.size).reverse := by
    show PySem.Builtin.Str.strSliceIndices none none (-1) z.length = _
    unfold PySem.Builtin.Str.strSliceIndices
    show sliceRange ((z.cps.size : Int) - 1) (-1) (-1) = _
    rw [PySem.W.krv_sliceRange, PySem.W.krv_range]
  rw [e, List.filterMap_reverse, PySem.W.krv_all]
theorem rv_str : RvR X rRevS := fun pins s σ H x v vl vu vs sl Q I rx hs pl pu ps q => by
  obtain ⟨z, rfl, hz, q⟩ := q
  obtain ⟨t, rfl⟩ := rx
  cases pl
  cases pu
  cases ps with
  | int _ tk =>
    refine ⟨"str", _, F.slot_str_getitem.lookup, typeIs_str _ _ _, ?_⟩
    refine wpAny_getItem_str_slice (l := none) (u := none) (st := some (-1, tk)) hs rfl ?_
    have e : sliceMade z t none none (some (-1, tk)) = .str (toS z.cps.toList.reverse) := by
      unfold sliceMade
      rw [rev_picked]
      rfl
    rw [e]
    exact ⟨by rw [toS_len, List.length_reverse]; exact hz, ⟨.str _, H, I.tok _, ⟨_, rfl⟩, q⟩⟩
theorem slice_rev {prog : Program} {w : World} {A : Around} {E : Value → Shared → Prop} {s : Shared} {sl : Addr} {vl vu vs : Value} {n : Nat} {Q : Int × Int × Nat → Shared → Prop} (hs : s.heap.IsSliceOf sl vl vu vs) (pl : IsPart vl none) (pu : IsPart vu none) (ps : IsPart vs (some (-1)))
    (h : Q ((n : Int) - 1, -1, n) s) : wpAny (model prog w) A (Builtin.Slice.sliceApplied (.ref sl) (pure (n : Int))) Q E s := by
  obtain ⟨os, hos, hcs, hds⟩ := id hs
  unfold Builtin.Slice.sliceApplied Builtin.Slice.sliceFields
  refine wpAny_bind (wpAny_bind (wpAny_field hos hds (x := vl) rfl (wpAny_bind (wpAny_field hos hds (x := vu) rfl (wpAny_bind (wpAny_field hos hds (x := vs) rfl (wpAny_pure ?_)))))))
  refine wpAny_bind (HT.slicePart_ ps ?_)
  show wpAny _ _ (if ((-1 : Int) == 0) = true then _ else _) _ _ s
  rw [if_neg (by decide)]
  refine wpAny_bind (HT.slicePart_ pl (wpAny_bind (HT.slicePart_ pu (wpAny_bind (wpAny_pure ?_)))))
  show wpAny _ _ (match Builtin.Slice.sliceAdjust none none (-1) (n : Int) with | (lo, hi) => pure (lo, (-1 : Int), Builtin.Slice.slicePlaces lo hi (-1))) _ _ s
  have e1 : Builtin.Slice.sliceAdjust none none (-1) (n : Int) = ((n : Int) - 1, -1) := rfl
  rw [e1]
  show wpAny _ _ (pure ((n : Int) - 1, (-1 : Int), Builtin.Slice.slicePlaces ((n : Int) - 1) (-1) (-1))) _ _ s
  have e2 : Builtin.Slice.slicePlaces ((n : Int) - 1) (-1) (-1) = n := by
    unfold Builtin.Slice.slicePlaces
    rw [if_neg (by decide)]
    have e3 : -(-1 : Int) = 1 := rfl
    rw [e3, Int.ediv_one]
    split <;> omega
  rw [e2]
  exact wpAny_pure h
theorem pick_rev (xs : Array Value) : ((List.range xs.size).filterMap fun (m : Nat) => xs[(((xs.size : Int) - 1) + (m : Int) * -1).toNat]?).toArray = xs.toList.reverse.toArray := by
  congr 1
  have e : (List.range xs.size).filterMap (fun (m : Nat) => xs[(((xs.size : Int) - 1) + (m : Int) * -1).toNat]?) = ((List.range xs.size).map fun k => xs.size - 1 - k).filterMap (xs[·]?) := by
    rw [List.filterMap_map]
    congr 1
    funext m
    have : (((xs.size : Int) - 1) + (m : Int) * -1).toNat = xs.size - 1 - m := by omega
    show xs[(((xs.size : Int) - 1) + (m : Int) * -1).toNat]? = xs[xs.size - 1 - m]?
    rw [this]
  rw [e, PySem.W.krv_range, List.filterMap_reverse, PySem.W.krv_all]
theorem getItem_rev {prog : Program} {w : World} {A : Around} {E : Value → Shared → Prop} {s : Shared} {t sl : Addr} {items : Array Value} {vl vu vs : Value} {Q : Value → Shared → Prop} (ht : IsTup s.heap t items) (hs : s.heap.IsSliceOf sl vl vu vs) (pl : IsPart vl none) (pu : IsPart vu none) (ps : IsPart vs (some (-1)))
    (h : Q (.ref s.heap.objs.size) { s with heap := s.heap.push { cls := .type "tuple", data := .seq items.toList.reverse.toArray } })
    (hsz : items.size ≤ sizeLine) : wpAny (model prog w) A (getItem (.ref t) (.ref sl)) Q E s := by
  have htake : sizeOk (.seq items.toList.reverse.toArray) := by
    show items.toList.reverse.toArray.size ≤ sizeLine
    rw [List.size_toArray, List.length_reverse, Array.length_toList]
    exact hsz
  obtain ⟨os, hos, hcs, hds⟩ := id hs
  have hTs : s.TypeIs (.ref sl) "slice" := ⟨os, hos, hcs⟩
  unfold getItem
  try with_reducible refine wpAny_holding ?_
  first | refine wpAny_bind (wpAny_pure ?_) | skip
  refine wpAny_bind (wpAny_sequenceKey ht.typeIs (by decide) ?_)
  refine wpAny_bind (wpAny_callSpecial?_slot (name := Str.ofString "__getitem__") ht.typeIs PyProof.Rows.slot_tuple_getitem
    (wpAny_call_entry PyProof.Rows.slot_tuple_getitem ht.typeIs entry_tuple_getitem ?_ (args_tuple_getitem _ _)))
  show wpAny _ _ (Builtin.Tuple.tupleItemsOf (.ref t) >>= _) _ _ s
  refine wpAny_bind (PyProof.Rows.tupleItemsOf_ ht ?_)
  refine wpAny_bind (wpAny_typeOf hTs ?_)
  rw [if_pos (by decide)]
  refine wpAny_bind (slice_rev hs pl pu ps ?_)
  have hno : ¬ ((((items.size : Int) - 1) == 0 && (-1 : Int) == 1 && items.size == items.size) = true) := by
    intro q
    rw [Bool.and_eq_true, Bool.and_eq_true] at q
    exact absurd q.1.2 (by decide)
  show wpAny _ _ (if (((items.size : Int) - 1) == 0 && (-1 : Int) == 1 && items.size == items.size) = true then _ else _) _ _ s
  rw [if_neg hno, pick_rev]
  first
    | exact wpAny_bind (m := Builtin.Tuple.tupleExact _) (wpAny_newObj_type (wpAny_pure ⟨_, rfl, wpAny_pure h⟩) htake)
    | exact wpAny_bind (m := Builtin.Tuple.tupleExact _) (wpAny_newObj_type (wpAny_bind (wpAny_pure (wpAny_pure ⟨_, rfl, wpAny_pure h⟩))) htake)
    | exact wpAny_bind (wpAny_bind (m := Builtin.Tuple.tupleExact _) (wpAny_newObj_type (wpAny_pure (wpAny_pure ⟨_, rfl, wpAny_pure h⟩)) htake))
    | exact wpAny_bind (wpAny_bind (m := Builtin.Tuple.tupleExact _) (wpAny_newObj_type (wpAny_pure ⟨_, rfl, wpAny_pure h⟩) htake))
def rRevT (K : PySem.W.Frag) : V → Hp → VK → Prop := fun x H Q => ∃ a xs, x = .ref a ∧ SqT K H a xs ∧ ∀ p, H p = none → Q (.ref p) (upd H p (.tup xs.reverse))
theorem rv_tup : RvR X (rRevT X.K) := fun pins s σ H x v vl vu vs sl Q I rx hs pl pu ps q => by
  obtain ⟨a, xs, rfl, hx, q⟩ := q
  cases rx
  obtain ⟨its, r, ht, hz⟩ := I.tuple hx
  have hlen : its.toArray.size = xs.length := by rw [List.size_toArray]; exact r.length.symm
  refine ⟨"tuple", _, PyProof.Rows.slot_tuple_getitem.lookup, ht.typeIs, ?_⟩
  refine getItem_rev ht hs pl pu ps ?_ (by rw [hlen]; exact hz)
  refine ⟨.ref s.heap.objs.size, _, I.laid (t' := s.toks) (o := .tup xs.reverse) (fun b ob q => Heap.get?_push_of_some _ q) (Nat.le_refl _) ?_, rfl, q _ (I.hok.fresh (Nat.le_refl _))⟩
  exact ⟨by rw [List.length_reverse]; exact hz, _, r.reverse, IsTup.new _ _⟩
theorem p1_rev {m : Bool} : PR1 X (.rev m) (fun x H Q => (rRevL X.K x H Q ∨ rRevS x H Q) ∨ rRevT X.K x H Q) := fun S v x Q hK g r p => by
  have p : Post S (match dr S.h v with
    | some (.list xs) => okList m xs.reverse S.h
    | some (.str s) => .ok (.str s.reverse) S.h
    | some (.tup xs) => okTup xs.reverse S.h
    | _ => .stuck) Q := p
  cases e : dr S.h v with
  | none => rw [e] at p; exact p.elim
  | some w =>
    rw [e] at p
    have d := dr_rel g r e
    cases w with
    | list xs =>
      obtain ⟨a, ys, rfl, h, r⟩ := d
      exact .inl (.inl ⟨a, ys, rfl, .inl (.inl h), (okList_of g r.rev p).2⟩)
    | tup xs =>
      obtain ⟨a, ys, rfl, h, r⟩ := d
      obtain ⟨c, p⟩ := okTup_of p
      exact .inr ⟨a, ys, rfl, by rw [← hK]; exact h, fun q n => new_tup g r.rev p n⟩
    | str s =>
      obtain ⟨rfl, a⟩ := d
      refine .inl (.inr ⟨_, rfl, by rw [toS_len, ← SL_eq]; exact (asc_iff.mp a).2, ?_⟩)
      rw [toS_cps]
      exact old_str g (asc_iff.mpr ⟨fun c hc => (asc_iff.mp a).1 c (List.mem_reverse.mp hc), by rw [List.length_reverse]; exact (asc_iff.mp a).2⟩) p
    | _ => exact p.elim
end
end M
namespace M
open PySem PySem.Spec PyProof.Rows L2
/-! ### the checker of expressions -/
def revE : Expr → Bool
  | .UnaryOp .USub (.Constant (.int 1) _ _) _ => true
  | _ => false
/-- x in d, x not in d -/
def dinOk (op : CmpOp) (p : P) : Bool := match op, p with
  | .In, .din => true
  | .NotIn, .dnotin => true
  | _, _ => false
/-- a primitive's parts in the text -/
def primV (c : Ck) (p : P) : Expr → Option (List Expr)
  | .BinOp l op r _ => if binOk op p then some [l, r] else none
  | .UnaryOp .USub a _ => if p = .neg then some [a] else none
  | .Compare l [op] [r] _ => if cmpOf op = some p then some [l, r] else if isOf1 op r = some p then some [l] else if dinOk op p then some [l, r] else none
  | .Tuple es _ _ => if p = .tup then some es else none
  | .List es _ => (match p with
    | .list _ => some es
    | _ => none)
  | .Subscript a (.Slice lo hi none _) _ => (match p, lo, hi with
    | .sl true true, some x, some y => some [a, x, y]
    | .sl true false, some x, none => some [a, x]
    | .sl false true, none, some y => some [a, y]
    | .sl false false, none, none => some [a]
    | .slm true true, some x, some y => some [a, x, y]
    | .slm true false, some x, none => some [a, x]
    | .slm false true, none, some y => some [a, y]
    | .slm false false, none, none => some [a]
    | _, _, _ => none)
  | .Subscript a (.Slice none none (some (.UnaryOp .USub (.Constant (.int 1) _ _) _)) _) _ => (match p with
    | .rev _ => some [a]
    | _ => none)
  | .Subscript a b _ => if p = .ix then some [a, b] else if p = .dget then some [a, b] else none
  | .Dict [] [] _ => (match p with
    | .dict0 _ => some []
    | _ => none)
  | .Dict [some k] [v] _ => (match p with
    | .dict1 _ => some [k, v]
    | _ => none)
  | .Call (.Name x _) args [] _ => (match p, args with
    | .isi [t], [a, .Name y _] => if (x == ("isinstance" : Str)) && (y == Str.ofString (tyName t)) && inL x c.bl && inL y c.bl && glB c.sc x && glB c.sc y && decide (t < 6) then some [a] else none
    | .lenSet, [.Call (.Name y _) [a] [] _] => if (x == ("len" : Str)) && (y == ("set" : Str)) && inL x c.bl && inL y c.bl && glB c.sc x && glB c.sc y then some [a] else none
    | .sortSet _, [.Call (.Name y _) [a] [] _] => if (x == ("sorted" : Str)) && (y == ("set" : Str)) && inL x c.bl && inL y c.bl && glB c.sc x && glB c.sc y then some [a] else none
    | p, args => (match bltN p with
      | some (nm, _, _) => if (x == nm) && inL x c.bl && glB c.sc x && nmOk x && !args.isEmpty then some args else none
      | none => none))
  | .Call (.Name x _) [a] [⟨n, d, _⟩] _ => if decide (p = .minOr) && (x == ("min" : Str)) && inL x c.bl && glB c.sc x && decide (n = some ("default" : Str)) then some [a, d] else none
  | _ => none
def litOk (c : Ck) (v : Val) : Expr → Bool
  | .Constant k _ _ => (match litC k with
    | some w => Val.same v w
    | none => false)
  | .Name x _ => glB c.sc x && nmOk x && c.gls.any fun p => (p.1 == x) && Val.same p.2 v
  | .Dict [] [] _ => Val.same v (.dict [] [])
  | .Dict [some (.Constant k1 _ _)] [.Constant k2 _ _] _ => (match keyC k1, litC k2 with
    | some (_, kv), some w => Val.same v (.dict [kv] [w])
    | _, _ => false)
  | .Dict ks cs _ => (match dictC ks cs with
    | some (ys, kl, vl) => decide ys.Nodup && decide (ks.length ≤ 15) && !ks.isEmpty && Val.same v (.dict kl vl)
    | none => false)
  | _ => false
def selSame : List (Sum Nat Val) → List (Sum Nat Val) → Bool
  | [], [] => true
  | .inl i :: r, .inl j :: s => i == j && selSame r s
  | .inr v :: r, .inr w :: s => Val.same v w && selSame r s
  | _, _ => false
theorem selSame_eq : ∀ {a b : List (Sum Nat Val)}, selSame a b = true → a = b
  | [], [], _ => rfl
  | [], _ :: _, h => by cases h
  | .inl _ :: _, [], h => by cases h
  | .inr _ :: _, [], h => by cases h
  | .inl i :: r, .inl j :: s, h => by
    have h' := Bool.and_eq_true_iff.mp (show (i == j && selSame r s) = true from h)
    rw [eq_of_beq h'.1, selSame_eq h'.2]
  | .inr v :: r, .inr w :: s, h => by
    have h' := Bool.and_eq_true_iff.mp (show (Val.same v w && selSame r s) = true from h)
    rw [same_eq h'.1, selSame_eq h'.2]
  | .inl _ :: _, .inr _ :: _, h => by cases h
  | .inr _ :: _, .inl _ :: _, h => by cases h
def strsSame : List Str → List Str → Bool
  | [], [] => true
  | x :: r, y :: s => x == y && strsSame r s
  | _, _ => false
theorem strsSame_eq : ∀ {a b : List Str}, strsSame a b = true → a = b
  | [], [], _ => rfl
  | [], _ :: _, h => by cases h
  | _ :: _, [], h => by cases h
  | x :: r, y :: s, h => by
    have h' := Bool.and_eq_true_iff.mp (show (x == y && strsSame r s) = true from h)
    rw [eq_of_beq h'.1, strsSame_eq h'.2]
def callOk (c : Ck) (f : Nat) (sel : List (Sum Nat Val)) (x : Str) (args : List Expr) (kws : List Keyword) : Bool := match c.fns[f]? with
  | some fe => fe.own.isNone && (fe.x == x) && glB c.sc x && nmOk x && kwsE kws && fe.shapes.any fun sh => decide (sh.n = args.length) && strsSame (kwN kws) sh.ks && selSame sel sh.sel
  | none => false
def ownP (c : Ck) (own : List Nat) : List (Str × Nat) := own.map fun i => ((c.N[i]?).getD default, i)
def locB (sc : Scope) (x : Str) : Bool := match sc.names.lookup x with
  | some .local => true
  | some .cell => true
  | _ => false
/-- within a comprehension -/
def ckB (c : Ck) (scope : Scope) (own : List Nat) : Ck := { c with sc := relS scope c.sc, st := ((ownP c own).map Prod.fst).filter (locB scope) }
def compOk (c : Ck) (own : List Nat) (t : Tg) (scope : Scope) (tg : Expr) : Bool := blkC c.N c.sc scope (ownP c own) && (t.slots.all fun i => own.contains i) && okTg (ckB c scope own) t tg
/-- a field of a class -/
def attrOk (c : Ck) (cx f : T) (nm : Str) : Bool := (nm == toS f) && c.cls.any fun e => (e.x == toS cx) && inL (toS f) e.flds
def shOk (fe : FnS) (sel : List (Sum Nat Val)) (n : Nat) : Bool := fe.shapes.any fun sh => decide (n + 1 = sh.n) && sh.ks.isEmpty && selSame sel sh.sel
def makeOk (c : Ck) (cx : T) (i : Nat) (sel : List (Sum Nat Val)) (x : Str) (n : Nat) : Bool := (x == toS cx) && glB c.sc x && nmOk x && (c.cls.any fun e => e.x == x) && match c.fns[i]? with
  | some fe => decide (fe.own = some x) && (fe.x == ("__init__" : Str)) && shOk fe sel n
  | none => false
def mcallOk (c : Ck) (cx m : T) (i : Nat) (sel : List (Sum Nat Val)) (nm : Str) (n : Nat) : Bool := (nm == toS m) && (c.cls.any fun e => e.x == toS cx) && match c.fns[i]? with
  | some fe => decide (fe.own = some (toS cx)) && !(fe.x == ("__init__" : Str)) && (fe.x == nm) && shOk fe sel n
  | none => false
def getOk (p : P) (nm : Str) (n : Nat) : Bool := decide (p = .dgetd) && (nm == ("get" : Str)) && decide (n = 2)
/-- one clause -/
def gen1 : List Comprehension → Option (Expr × Expr × List Expr)
  | [g] => if g.is_async = 0 then some (g.target, g.iter, g.ifs) else none
  | _ => none
theorem gen1_ok {gs : List Comprehension} {tg it : Expr} {ifs : List Expr} (h : gen1 gs = some (tg, it, ifs)) : gs = [⟨tg, it, ifs, 0⟩] := by
  match gs, h with
  | [g], h =>
    obtain ⟨a, b, d, z⟩ := g
    unfold gen1 at h
    simp only at h
    split at h
    · rename_i e
      cases h
      rw [e]
    · cases h
  | [], h => cases h
  | _ :: _ :: _, h => cases h
def isMore : MG → Bool
  | .last => false
  | .more _ _ _ _ => true
mutual
def okE (c : Ck) : ME → Expr → Bool
  | .lit v, e => plainE e && litOk c v e
  | .var i, .Name x _ => (match c.N[i]? with
    | some y => y == x
    | none => false) && visB c.sc x && nmOk x
  | .prim p es, e => plainE e && (match primV c p e with
    | some xs => okEs c es xs
    | none => false)
  | .and a b, .BoolOp .And (x :: y :: rest) pos => okE c a x && (if rest.isEmpty then okE c b y else okE c b (.BoolOp .And (y :: rest) pos))
  | .or a b, .BoolOp .Or (x :: y :: rest) pos => okE c a x && (if rest.isEmpty then okE c b y else okE c b (.BoolOp .Or (y :: rest) pos))
  | .not a, .UnaryOp .Not x _ => okE c a x
  | .ite t a b, .IfExp x y z _ => okE c t x && tst t && okE c a y && okE c b z
  | .chain p q a b d, .Compare x [o1, o2] [y, z] _ => (cmpOf o1 == some p) && (cmpOf o2 == some q) && okE c a x && okE c b y && okE c d z
  | .call f es kes sel, .Call (.Name x _) args kws _ => callOk c f sel x args kws && okEs c es args && okEs c kes (kws.map fun k => k.value)
  | .comp m own t i cs e, .ListComp elt gens scope _ => (match gen1 gens with
    | some (tg, iter, ifs) => plainE iter && compOk c own t scope tg && okI c tg i iter && okEs (ckB c scope own) cs ifs && decide (ifs.length ≤ 1) && (cs.all tst) && okE (ckB c scope own) e elt
    | none => false)
  | .frz m, e => okE c m e
  | .meth p o es, .Call (.Attribute ob nm apos) args [] cpos => ((match mthN p with
    | some (n, _) => n == nm
    | none => false) || getOk p nm args.length) && baseE ob && (apos.endLine == cpos.line) && decide (args.length < 28) && okE c o ob && okEs c es args
  | .junk, e => plainE e
  | .attr cx f o, .Attribute ob nm _ => attrOk c cx f nm && baseE ob && okE c o ob
  | .make cx i es sel, .Call (.Name x _) args [] _ => makeOk c cx i sel x args.length && okEs c es args
  | .mcall cx m i o es sel, .Call (.Attribute ob nm apos) args [] pos => mcallOk c cx m i sel nm args.length && baseE ob && (apos.endLine == pos.line) && decide (args.length < 28) && okE c o ob && okEs c es args
  | .comps d m g e v, .ListComp elt gens scope _ => !d && isMore g && blkC c.N c.sc scope (ownP c g.slots) && okG c (ckB c scope g.slots) g gens && okE (ckB c scope g.slots) e elt
  | .comps d m g e v, .DictComp kx vx gens scope _ => d && isMore g && blkC c.N c.sc scope (ownP c g.slots) && okG c (ckB c scope g.slots) g gens && okE (ckB c scope g.slots) e kx && okE (ckB c scope g.slots) v vx
  | _, _ => false
/-- clauses: the first one's walk is of c, all else of c2 -/
def okG (c c2 : Ck) : MG → List Comprehension → Bool
  | .last, [] => true
  | .more t i cs r, gn :: gs => decide (gn.is_async = 0) && plainE gn.iter && okTg c2 t gn.target && okI c gn.target i gn.iter && okEs c2 cs gn.ifs && decide (gn.ifs.length ≤ 1) && (cs.all tst) && okG c2 c2 r gs
  | _, _ => false
def okEs (c : Ck) : List ME → List Expr → Bool
  | [], [] => true
  | m :: ms, e :: es => okE c m e && okEs c ms es
  | _, _ => false
def okI (c : Ck) (tg : Expr) : MI → Expr → Bool
  | .val m, e => okE c m e
  | .range es, .Call (.Name x _) args [] _ => (x == ("range" : Str)) && inL x c.bl && glB c.sc x && decide (1 ≤ args.length) && decide (args.length ≤ 3) && okEs c es args
  | .enum m, .Call (.Name x _) [a] [] _ => (x == ("enumerate" : Str)) && inL x c.bl && glB c.sc x && isTupE tg && okE c m a
  | .zip m n, .Call (.Name x _) [a, b] [] _ => (x == ("zip" : Str)) && inL x c.bl && glB c.sc x && isTupE tg && okE c m a && okE c n b
  | _, _ => false
/-- may it be a test -/
def tst : ME → Bool
  | .ite _ _ _ => false
  | .frz _ => false
  | .comps _ _ _ _ _ => false
  | .and a b => tst a && tst b
  | .or a b => tst a && tst b
  | .not a => tst a
  | _ => true
end
theorem okE_plain {c : Ck} : ∀ {m : ME} {e : Expr}, okE c m e = true → plainE e = true
  | .lit v, e, h => (Bool.and_eq_true_iff.mp (show (plainE e && litOk c v e) = true from h)).1
  | .prim p es, e, h => (Bool.and_eq_true_iff.mp (show (plainE e && _) = true from h)).1
  | .frz m, e, h => okE_plain (m := m) (show okE c m e = true from h)
  | .var i, e, h => by cases e <;> first | rfl | cases h
  | .and a b, e, h => by cases e <;> first | rfl | cases h
  | .or a b, e, h => by cases e <;> first | rfl | cases h
  | .not a, e, h => by cases e <;> first | rfl | cases h
  | .ite t a b, e, h => by cases e <;> first | rfl | cases h
  | .chain p q a b d, e, h => by cases e <;> first | rfl | cases h
  | .call f es kes sel, e, h => by cases e <;> first | rfl | cases h
  | .comp m own t i cs x, e, h => by cases e <;> first | rfl | cases h
  | .meth p o es, e, h => by cases e <;> first | rfl | cases h
  | .junk, e, h => h
  | .comps d m g x y, e, h => by cases e <;> first | rfl | cases h
  | .attr _ _ _, e, h => by cases e <;> first | rfl | cases h
  | .make _ _ _ _, e, h => by cases e <;> first | rfl | cases h
  | .mcall _ _ _ _ _ _, e, h => by cases e <;> first | rfl | cases h
theorem okG_sync : ∀ {g : MG} {c c2 : Ck} {gens : List Comprehension}, okG c c2 g gens = true → ∀ gn ∈ gens, gn.is_async = 0
  | .last, c, c2, [], _ => fun gn h => by cases h
  | .last, c, c2, _ :: _, h => by cases h
  | .more t i cs r, c, c2, [], h => by cases h
  | .more t i cs r, c, c2, gn :: gs, h => fun g hg => by
    have h : (decide (gn.is_async = 0) && plainE gn.iter && okTg c2 t gn.target && okI c gn.target i gn.iter && okEs c2 cs gn.ifs && decide (gn.ifs.length ≤ 1) && (cs.all tst) && okG c2 c2 r gs) = true := h
    simp only [Bool.and_eq_true, decide_eq_true_eq] at h
    rcases List.mem_cons.mp hg with rfl | hg
    · exact h.1.1.1.1.1.1.1
    · exact okG_sync (g := r) h.2 g hg
end M
namespace M
open PySem PySem.Spec PyProof.Rows L2
structure PB (X : Cx) (cl : CallFn) (m : ME) (e : Expr) : Prop where
  pe : PE X e (tM X.K (evE cl m))
  pt : tst m = true → PT X e (tB X.K (evT cl m))
inductive PEs (X : Cx) (cl : CallFn) : List ME → List Expr → Prop where
  | nil : PEs X cl [] []
  | cons {m : ME} {e : Expr} {ms : List ME} {es : List Expr} : PE X e (tM X.K (evE cl m)) → plainE e = true → PEs X cl ms es → PEs X cl (m :: ms) (e :: es)
section
variable {X : Cx} {c : Ck} {k : Nat} {cl : CallFn}
theorem PEs.pa : ∀ {ms : List ME} {es : List Expr}, PEs X cl ms es → PA X es (tAs X.K (evEs cl ms))
  | _, _, .nil => pa_nilM
  | _, _, .cons h hp t => pa_consM h t.pa (star_plain hp)
theorem PEs.plain : ∀ {ms : List ME} {es : List Expr}, PEs X cl ms es → plainsE es = true
  | _, _, .nil => rfl
  | _, _, .cons (e := e) (es := es) h hp t => by show (plainE e && plainsE es) = true; rw [hp, t.plain]; rfl
theorem PEs.len : ∀ {ms : List ME} {es : List Expr}, PEs X cl ms es → ms.length = es.length
  | _, _, .nil => rfl
  | _, _, .cons h hp t => congrArg Nat.succ t.len
theorem PEs.one {ms : List ME} {e : Expr} (h : PEs X cl ms [e]) : ∃ m, ms = [m] ∧ PE X e (tM X.K (evE cl m)) ∧ plainE e = true := by
  cases h with
  | cons h hp t => cases t; exact ⟨_, rfl, h, hp⟩
theorem PEs.two {ms : List ME} {e f : Expr} (h : PEs X cl ms [e, f]) : ∃ m n, ms = [m, n] ∧ PE X e (tM X.K (evE cl m)) ∧ PE X f (tM X.K (evE cl n)) ∧ plainE e = true ∧ plainE f = true := by
  cases h with
  | cons h hp t =>
    obtain ⟨n, rfl, h2, hp2⟩ := t.one
    exact ⟨_, _, rfl, h, h2, hp, hp2⟩
theorem PEs.three {ms : List ME} {e f g : Expr} (h : PEs X cl ms [e, f, g]) : ∃ m n o, ms = [m, n, o] ∧ PE X e (tM X.K (evE cl m)) ∧ PE X f (tM X.K (evE cl n)) ∧ PE X g (tM X.K (evE cl o)) := by
  cases h with
  | cons h hp t =>
    obtain ⟨m, n, rfl, h2, h3, _, _⟩ := t.two
    exact ⟨_, _, _, rfl, h, h2, h3⟩
theorem ev1 (p : P) (a : ME) : evE cl (.prim p [a]) = fun ls h => (evE cl a ls h).bind fun v h => evP p [v] h := by
  funext ls h
  show (evEs cl [a] ls h).bind _ = _
  unfold evEs
  cases evE cl a ls h <;> rfl
theorem ev2 (p : P) (a b : ME) : evE cl (.prim p [a, b]) = fun ls h => (evE cl a ls h).bind fun v h => (evE cl b ls h).bind fun w h => evP p [v, w] h := by
  funext ls h
  show (evEs cl [a, b] ls h).bind _ = _
  unfold evEs
  cases evE cl a ls h with
  | ok v h1 =>
    simp only [bind_ok]
    unfold evEs
    cases evE cl b ls h1 <;> rfl
  | exc _ _ => rfl
  | stuck => rfl
theorem ev3 (p : P) (a b d : ME) : evE cl (.prim p [a, b, d]) = fun ls h => (evE cl a ls h).bind fun v h => (evE cl b ls h).bind fun w h => (evE cl d ls h).bind fun u h => evP p [v, w, u] h := by
  funext ls h
  show (evEs cl [a, b, d] ls h).bind _ = _
  unfold evEs
  cases evE cl a ls h with
  | ok v h1 =>
    simp only [bind_ok]
    unfold evEs
    cases evE cl b ls h1 with
    | ok w h2 =>
      simp only [bind_ok]
      unfold evEs
      cases evE cl d ls h2 <;> rfl
    | exc _ _ => rfl
    | stuck => rfl
  | exc _ _ => rfl
  | stuck => rfl
theorem evs1 (a : ME) : evEs cl [a] = fun ls h => (evE cl a ls h).bind fun v h => .ok [v] h := by
  funext ls h
  unfold evEs
  cases evE cl a ls h <;> rfl
theorem evs2 (a b : ME) : evEs cl [a, b] = fun ls h => (evE cl a ls h).bind fun v h => (evE cl b ls h).bind fun w h => .ok [v, w] h := by
  funext ls h
  unfold evEs
  cases evE cl a ls h with
  | ok v h1 =>
    simp only [bind_ok]
    unfold evEs
    cases evE cl b ls h1 <;> rfl
  | exc _ _ => rfl
  | stuck => rfl
/-- with a test that is the value's truth -/
theorem PB.of {m : ME} {e : Expr} (h : PE X e (tM X.K (evE cl m))) (ht : trueE e = true) : PB X cl m e := ⟨h, fun _ => pt_truthM h (true_plain ht)⟩
theorem tPart_M {f : Loc → Heap → Res Val} {σ : L2.St} {H : Hp} {R : Option Int → Hp → Prop} {g : Loc → Int → Heap → Res Val} {Q : VK} (q : tM X.K (fun ls h => (f ls h).bind fun v h => int1 v fun i => g ls i h) σ H Q)
    (kk : ∀ i S ls, S.K = X.K → Good S → LRel S ls σ → Post S (g ls i S.h) Q → R (some i) S.H) : tPart (tM X.K f) σ H R := by
  refine tM_bind (g := fun ls v h => int1 v fun i => g ls i h) q fun v x S ls hK g1 l r p => ?_
  obtain ⟨i, rfl, p⟩ := int1_of p
  cases r
  exact ⟨i, rfl, kk i S ls hK g1 l p⟩
theorem cmp_PB (F : CF X c k cl) {op : CmpOp} {p : P} {a b : ME} {l r : Expr} {pos : Pos} (h : cmpOf op = some p) (ha : PE X l (tM X.K (evE cl a))) (hb : PE X r (tM X.K (evE cl b))) (hp : plainE r = true) : PB X cl (.prim p [a, b]) (.Compare l [op] [r] pos) := by
  obtain ⟨⟨rr, ho, hr⟩, hbool⟩ := cmp_ok F.units h
  have w : ∀ σ H Q, tM X.K (evE cl (.prim p [a, b])) σ H Q → tOp rr (tM X.K (evE cl a)) (tM X.K (evE cl b)) σ H Q := fun σ H Q q => tOp_M hr (by rw [ev2] at q; exact q)
  refine ⟨PE.wk (pe_cmpR ho ha hb (mark_plain hp)) w, fun _ => PT.wk (pt_cmpR ho ha hb (mark_plain hp)) fun σ H Q q => tTest_M w (fun ls h h' v e => ?_) q⟩
  rw [ev2] at e
  simp only at e
  cases e1 : evE cl a ls h with
  | ok u h1 =>
    rw [e1] at e
    simp only [bind_ok] at e
    cases e2 : evE cl b ls h1 with
    | ok u2 h2 => rw [e2] at e; exact hbool _ _ _ _ _ e
    | exc _ _ => rw [e2] at e; cases e
    | stuck => rw [e2] at e; cases e
  | exc _ _ => rw [e1] at e; cases e
  | stuck => rw [e1] at e; cases e
theorem is_PB {op : CmpOp} {p : P} {a : ME} {l r : Expr} {pos : Pos} (h : isOf1 op r = some p) (ha : PE X l (tM X.K (evE cl a))) : PB X cl (.prim p [a]) (.Compare l [op] [r] pos) := by
  obtain ⟨⟨rr, y, ho, hc, hr⟩, hbool⟩ := is_ok (X := X) h
  have hm : behindInMarks op r = false := by
    unfold isOf1 at h
    split at h <;> first | rfl | cases h
  have w : ∀ σ H Q, tM X.K (evE cl (.prim p [a])) σ H Q → tOp rr (tM X.K (evE cl a)) (tC y) σ H Q := fun σ H Q q => tOpC_M hr (by rw [ev1] at q; exact q)
  refine ⟨PE.wk (pe_cmpR ho ha hc hm) w, fun _ => PT.wk (pt_cmpR ho ha hc hm) fun σ H Q q => tTest_M w (fun ls h h' v e => ?_) q⟩
  rw [ev1] at e
  simp only at e
  cases e1 : evE cl a ls h with
  | ok u h1 => rw [e1] at e; exact hbool _ _ _ _ e
  | exc _ _ => rw [e1] at e; cases e
  | stuck => rw [e1] at e; cases e
theorem din_PB (F : CF X c k cl) {op : CmpOp} {p : P} {a b : ME} {l r : Expr} {pos : Pos} (h : dinOk op p = true) (ha : PE X l (tM X.K (evE cl a))) (hb : PE X r (tM X.K (evE cl b))) (hp : plainE r = true) : PB X cl (.prim p [a, b]) (.Compare l [op] [r] pos) := by
  have hu : X.A.units + 1 < cLine := by have := F.units; omega
  have go : ∀ {rr : R2} {t : TE}, PR2 X p rr → t = tOp rr (tM X.K (evE cl a)) (tM X.K (evE cl b)) → PC X op l r t → (∀ v w h h' u, evP p [v, w] h = .ok u h' → ∃ b, u = .bool b) → PB X cl (.prim p [a, b]) (.Compare l [op] [r] pos) := fun {rr t} hr et ho hbool => by
    have w : ∀ σ H Q, tM X.K (evE cl (.prim p [a, b])) σ H Q → t σ H Q := fun σ H Q q => by
      rw [et]
      exact tOp_M hr (by rw [ev2] at q; exact q)
    refine ⟨PE.wk (pe_cmp ho (mark_plain hp)) w, fun _ => PT.wk (pt_cmp ho (mark_plain hp)) fun σ H Q q => ?_⟩
    refine tTest_M w (fun ls h h' v e => ?_) q
    rw [ev2] at e
    simp only at e
    cases e1 : evE cl a ls h with
    | ok u h1 =>
      rw [e1] at e
      simp only [bind_ok] at e
      cases e2 : evE cl b ls h1 with
      | ok u2 h2 => rw [e2] at e; exact hbool _ _ _ _ _ e
      | exc _ _ => rw [e2] at e; cases e
      | stuck => rw [e2] at e; cases e
    | exc _ _ => rw [e1] at e; cases e
    | stuck => rw [e1] at e; cases e
  unfold dinOk at h
  split at h
  · exact go (rr := rDIn false) pr_din rfl (pc_din hu ha hb) fun v w h h' u e => optB_bool e
  · exact go (rr := rDIn true) pr_dnotin rfl (pc_dnotin hu ha hb) fun v w h h' u e => optB_bool e
  · cases h
theorem str_eqb {x y : Str} (h : (x == y) = true) : x = y := eq_of_beq h
theorem isi_names : ∀ t, t < 6 → bootBuiltins (Str.ofString (tyName t)) = some (.type (tyName t)) ∧ Str.ofString (tyName t) ≠ ("__name__" : Str) ∧ (Str.ofString (tyName t) == ("__debug__" : Str)) = false := by decide +kernel
theorem call_PB (F : CF X c k cl) {p : P} {nm : Str} {ty : Bool} {id : String} {es : List ME} {args : List Expr} {q pos : Pos} (h : bltN p = some (nm, ty, id)) (hl : inL nm c.bl = true) (hg : glB c.sc nm = true) (hn : nmOk nm = true) (hne : args.isEmpty = false) (hes : PEs X cl es args) :
    PB X cl (.prim p es) (.Call (.Name nm q) args [] pos) := by
  obtain ⟨r, hr, ho⟩ := blt_ok F h
  obtain ⟨n1, _, n3⟩ := nmOk_ok hn
  refine .of ?_ rfl
  cases args with
  | nil => cases hne
  | cons e rest =>
    have hp' := Bool.and_eq_true_iff.mp (show (plainE e && plainsE rest) = true from hes.plain)
    rcases ho with ⟨_, ho, hb⟩ | ⟨_, ho, hb⟩
    · exact PE.wk (pe_callB ho (glB_ok F hg) (F.bl _ (inL_ok hl)) hb hes.pa n3 n1 (star_plain hp'.1) (backs_plain hp'.2)) fun σ H Q z => tCB_M hr z
    · exact PE.wk (pe_callTy ho (glB_ok F hg) (F.bl _ (inL_ok hl)) hb hes.pa n3 n1 (star_plain hp'.1) (backs_plain hp'.2)) fun σ H Q z => tCB_M hr z
theorem isi_PB (F : CF X c k cl) {t : Nat} {m : ME} {a : Expr} {q q2 pos : Pos} (ht : t < 6) (hl : inL ("isinstance" : Str) c.bl = true) (hg : glB c.sc ("isinstance" : Str) = true) (hl2 : inL (Str.ofString (tyName t)) c.bl = true) (hg2 : glB c.sc (Str.ofString (tyName t)) = true) (ha : PE X a (tM X.K (evE cl m))) (hp : plainE a = true) :
    PB X cl (.prim (.isi [t]) [m]) (.Call (.Name ("isinstance" : Str) q) [a, .Name (Str.ofString (tyName t)) q2] [] pos) := by
  obtain ⟨b1, b2, b3⟩ := isi_names t ht
  refine .of ?_ rfl
  have pn : PE X (.Name (Str.ofString (tyName t)) q2) (tC (.ty (tyName t))) := pe_bltn (glB_ok F hg2) (F.bl _ (inL_ok hl2)) b1 rfl b2 b3
  refine PE.wk (pe_callB call_isi (glB_ok F hg) (F.bl _ (inL_ok hl)) boot_isinstance (pa_cons ha (pa_cons pn pa_nil) (star_plain hp)) (by decide) (by decide) (star_plain hp) rfl) fun σ H Q z => ?_
  rw [ev1] at z
  refine tM_bind (g := fun ls v h => evP (.isi [t]) [v] h) z fun v x S ls hK g l r p => ?_
  exact pr_isi ht hK g r p
theorem foldS : ∀ (ts : List T) (seen : List T), (ts.map toS).foldl addS (seen.map toS) = (ts.foldl addT seen).map toS
  | [], _ => rfl
  | t :: ts, seen => by
    rw [List.map_cons, List.foldl_cons, List.foldl_cons, ← foldS ts]
    congr 1
    unfold addS addT
    by_cases z : t ∈ seen
    · rw [if_pos z, if_pos (List.mem_map.mpr ⟨t, z, rfl⟩)]
    · rw [if_neg z, if_neg fun q => by
        obtain ⟨u, hu, e⟩ := List.mem_map.mp q
        rw [toS_inj e] at hu
        exact z hu]
      rfl
theorem lenSet_PB (F : CF X c k cl) {m : ME} {a : Expr} {p p2 q pos : Pos} (b1 : inL ("len" : Str) c.bl = true) (b2 : inL ("set" : Str) c.bl = true) (g1 : glB c.sc ("len" : Str) = true) (g2 : glB c.sc ("set" : Str) = true) (ha : PE X a (tM X.K (evE cl m))) (hp : plainE a = true) :
    PB X cl (.prim .lenSet [m]) (.Call (.Name ("len" : Str) p) [.Call (.Name ("set" : Str) p2) [a] [] q] [] pos) := by
  refine .of ?_ rfl
  refine PE.wk (pe_lenSetT F.calm (glB_ok F g1) (F.bl _ (inL_ok b1)) (glB_ok F g2) (F.bl _ (inL_ok b2)) ha (star_plain hp)) fun σ H Q z => ?_
  rw [ev1] at z
  refine tM_bind (g := fun ls v h => evP .lenSet [v] h) z fun v x S ls hK g l r p => ?_
  have p : Post S (lenSetV S.h v) Q := p
  unfold lenSetV at p
  cases e1 : (lstOf S.h v).bind textsOf with
  | none => rw [e1] at p; exact p.elim
  | some ts =>
    rw [e1] at p
    obtain ⟨cz, p⟩ := ite_of p
    obtain ⟨zs, e2, e3⟩ := bindO e1
    obtain ⟨a, ys, rfl, h, r⟩ := lst_rel g r e2
    obtain ⟨e4, _⟩ := texts_rel r e3
    subst e4
    refine ⟨a, ts.map toS, rfl, .inl (.inl h), by rw [List.length_map]; exact cz, ?_⟩
    have e5 := foldS ts []
    rw [List.map_nil] at e5
    rw [e5, List.length_map]
    exact old_int g p
theorem sortSet_PB (F : CF X c k cl) {m : Bool} {ma : ME} {a : Expr} {p p2 q pos : Pos} (b1 : inL ("sorted" : Str) c.bl = true) (b2 : inL ("set" : Str) c.bl = true) (g1 : glB c.sc ("sorted" : Str) = true) (g2 : glB c.sc ("set" : Str) = true) (ha : PE X a (tM X.K (evE cl ma))) (hp : plainE a = true) :
    PB X cl (.prim (.sortSet m) [ma]) (.Call (.Name ("sorted" : Str) p) [.Call (.Name ("set" : Str) p2) [a] [] q] [] pos) := by
  refine .of ?_ rfl
  have in1 : PE X (.Call (.Name ("set" : Str) p2) [a] [] q) (tCB (rSetTI X.K X.w) (tCons (tM X.K (evE cl ma)) tNil)) := pe_callTy (cr_setTI F.calm) (glB_ok F g2) (F.bl _ (inL_ok b2)) boot_set (pa_cons ha pa_nil (star_plain hp)) (by decide) (by decide) (star_plain hp) rfl
  refine PE.wk (pe_callB (cr_sortedSet F.calm) (glB_ok F g1) (F.bl _ (inL_ok b1)) boot_sorted1 (pa_cons in1 pa_nil rfl) (by decide) (by decide) rfl rfl) fun σ H Q z => ?_
  rw [ev1] at z
  show tM X.K (evE cl ma) σ H fun x H1 => rSortSetI X.K X.w x H1 Q
  refine tM_bind (g := fun ls v h => evP (.sortSet m) [v] h) z fun v x S ls hK g l r p => ?_
  exact pr_sortSet hK g r p
theorem minOr_PB (F : CF X c k cl) {ma md : ME} {a d : Expr} {p kp pos : Pos} (b1 : inL ("min" : Str) c.bl = true) (g1 : glB c.sc ("min" : Str) = true) (ha : PE X a (tM X.K (evE cl ma))) (hd : PE X d (tM X.K (evE cl md))) (hp : plainE a = true) (hq : plainE d = true) :
    PB X cl (.prim .minOr [ma, md]) (.Call (.Name ("min" : Str) p) [a] [⟨some ("default" : Str), d, kp⟩] pos) := by
  refine .of ?_ rfl
  refine PE.wk (pe_callBK (cr_minO F.calm (by have := F.units2; omega)) (glB_ok F g1) (F.bl _ (inL_ok b1)) boot_min (pa_cons ha pa_nil (star_plain hp)) (pk_cons hd pk_nil) (by decide) (by decide) (by rw [star_plain hp]; rfl) (by rw [star_plain hp]; rfl) rfl rfl rfl) fun σ H Q z => ?_
  rw [ev2] at z
  show tM X.K (evE cl ma) σ H fun x H1 => tM X.K (evE cl md) σ H1 fun y H2 => rMinO X.K [x] [y] H2 Q
  refine tM_bind (g := fun ls v h => (evE cl md ls h).bind fun w h => evP .minOr [v, w] h) z fun v x S ls hK g l r p => ?_
  refine tG.mk hK g l (PostG.bind p fun w y S2 _ g2 e2 r2 p2 => ?_)
  exact pr_minOr (e2.K.trans hK) g2 (r.ext e2) r2 p2
theorem int_first {S : RS} {w : Val} {r : Res Val} {g : Int → Int → Heap → Res Val} {Q : VK} (p : Post S (r.bind fun u h => int2 w u fun i j => g i j h) Q) : ∃ i, w = .int i ∧ Post S (r.bind fun u h => int1 u fun j => g i j h) Q := by
  cases r with
  | ok u h =>
    cases w with
    | int i =>
      refine ⟨i, rfl, ?_⟩
      cases u with
      | int j => exact p
      | _ => exact p.elim
    | _ => exact p.elim
  | exc _ _ => exact p.elim
  | stuck => exact p.elim
theorem sl_tt {fa fb fd : Loc → Heap → Res Val} {σ : L2.St} {H : Hp} {Q : VK} (q : tM X.K (fun ls h => (fa ls h).bind fun v h => (fb ls h).bind fun w h => (fd ls h).bind fun u h => evP (.sl true true) [v, w, u] h) σ H Q) :
    tSl (rSlAll X) (tM X.K fa) (tPart (tM X.K fb)) (tPart (tM X.K fd)) σ H Q := by
  refine tM_bind (g := fun ls v h => (fb ls h).bind fun w h => (fd ls h).bind fun u h => evP (.sl true true) [v, w, u] h) q fun v x S ls hK g l r p => ?_
  refine tG.mk hK g l (PostG.bind p fun w y S2 _ g2 e2 r2 p2 => ?_)
  obtain ⟨i, rfl, pq⟩ := int_first (g := fun i j h => slV h v (some i) (some j)) p2
  cases r2
  refine ⟨i, rfl, ?_⟩
  have hK2 := e2.K.trans hK
  refine tG.mk hK2 g2 (l.ext e2) (PostG.bind (g := fun u h => int1 u fun j => slV h v (some i) (some j)) pq fun u z S3 _ g3 e3 r3 p3 => ?_)
  obtain ⟨j, rfl, p3⟩ := int1_of p3
  cases r3
  exact ⟨j, rfl, slV_of (e3.K.trans hK2) g3 ((r.ext e2).ext e3) p3⟩
theorem sl_tf {fa fb : Loc → Heap → Res Val} {σ : L2.St} {H : Hp} {Q : VK} (q : tM X.K (fun ls h => (fa ls h).bind fun v h => (fb ls h).bind fun w h => evP (.sl true false) [v, w] h) σ H Q) :
    tSl (rSlAll X) (tM X.K fa) (tPart (tM X.K fb)) tNoPart σ H Q := by
  refine tM_bind (g := fun ls v h => (fb ls h).bind fun w h => evP (.sl true false) [v, w] h) q fun v x S ls hK g l r p => ?_
  refine tG.mk hK g l (PostG.bind p fun w y S2 _ g2 e2 r2 p2 => ?_)
  obtain ⟨i, rfl, p2⟩ := int1_of (f := fun i => slV S2.h v (some i) none) p2
  cases r2
  exact ⟨i, rfl, slV_of (e2.K.trans hK) g2 (r.ext e2) p2⟩
theorem sl_ft {fa fb : Loc → Heap → Res Val} {σ : L2.St} {H : Hp} {Q : VK} (q : tM X.K (fun ls h => (fa ls h).bind fun v h => (fb ls h).bind fun w h => evP (.sl false true) [v, w] h) σ H Q) :
    tSl (rSlAll X) (tM X.K fa) tNoPart (tPart (tM X.K fb)) σ H Q := by
  refine tM_bind (g := fun ls v h => (fb ls h).bind fun w h => evP (.sl false true) [v, w] h) q fun v x S ls hK g l r p => ?_
  refine tG.mk hK g l (PostG.bind p fun w y S2 _ g2 e2 r2 p2 => ?_)
  obtain ⟨i, rfl, p2⟩ := int1_of (f := fun i => slV S2.h v none (some i)) p2
  cases r2
  exact ⟨i, rfl, slV_of (e2.K.trans hK) g2 (r.ext e2) p2⟩
theorem sl_ff {fa : Loc → Heap → Res Val} {σ : L2.St} {H : Hp} {Q : VK} (q : tM X.K (fun ls h => (fa ls h).bind fun v h => evP (.sl false false) [v] h) σ H Q) :
    tSl (rSlAll X) (tM X.K fa) tNoPart tNoPart σ H Q := by
  refine tM_bind (g := fun ls v h => evP (.sl false false) [v] h) q fun v x S ls hK g l r p => ?_
  exact slV_of hK g r p
theorem slm_tt {fa fb fd : Loc → Heap → Res Val} {σ : L2.St} {H : Hp} {Q : VK} (q : tM X.K (fun ls h => (fa ls h).bind fun v h => (fb ls h).bind fun w h => (fd ls h).bind fun u h => evP (.slm true true) [v, w, u] h) σ H Q) :
    tSl (rSlAll X) (tM X.K fa) (tPart (tM X.K fb)) (tPart (tM X.K fd)) σ H Q := by
  refine tM_bind (g := fun ls v h => (fb ls h).bind fun w h => (fd ls h).bind fun u h => evP (.slm true true) [v, w, u] h) q fun v x S ls hK g l r p => ?_
  refine tG.mk hK g l (PostG.bind p fun w y S2 _ g2 e2 r2 p2 => ?_)
  obtain ⟨i, rfl, pq⟩ := int_first (g := fun i j h => slM h v (some i) (some j)) p2
  cases r2
  refine ⟨i, rfl, ?_⟩
  have hK2 := e2.K.trans hK
  refine tG.mk hK2 g2 (l.ext e2) (PostG.bind (g := fun u h => int1 u fun j => slM h v (some i) (some j)) pq fun u z S3 _ g3 e3 r3 p3 => ?_)
  obtain ⟨j, rfl, p3⟩ := int1_of p3
  cases r3
  exact ⟨j, rfl, slM_of (e3.K.trans hK2) g3 ((r.ext e2).ext e3) p3⟩
theorem slm_tf {fa fb : Loc → Heap → Res Val} {σ : L2.St} {H : Hp} {Q : VK} (q : tM X.K (fun ls h => (fa ls h).bind fun v h => (fb ls h).bind fun w h => evP (.slm true false) [v, w] h) σ H Q) :
    tSl (rSlAll X) (tM X.K fa) (tPart (tM X.K fb)) tNoPart σ H Q := by
  refine tM_bind (g := fun ls v h => (fb ls h).bind fun w h => evP (.slm true false) [v, w] h) q fun v x S ls hK g l r p => ?_
  refine tG.mk hK g l (PostG.bind p fun w y S2 _ g2 e2 r2 p2 => ?_)
  obtain ⟨i, rfl, p2⟩ := int1_of (f := fun i => slM S2.h v (some i) none) p2
  cases r2
  exact ⟨i, rfl, slM_of (e2.K.trans hK) g2 (r.ext e2) p2⟩
theorem slm_ft {fa fb : Loc → Heap → Res Val} {σ : L2.St} {H : Hp} {Q : VK} (q : tM X.K (fun ls h => (fa ls h).bind fun v h => (fb ls h).bind fun w h => evP (.slm false true) [v, w] h) σ H Q) :
    tSl (rSlAll X) (tM X.K fa) tNoPart (tPart (tM X.K fb)) σ H Q := by
  refine tM_bind (g := fun ls v h => (fb ls h).bind fun w h => evP (.slm false true) [v, w] h) q fun v x S ls hK g l r p => ?_
  refine tG.mk hK g l (PostG.bind p fun w y S2 _ g2 e2 r2 p2 => ?_)
  obtain ⟨i, rfl, p2⟩ := int1_of (f := fun i => slM S2.h v none (some i)) p2
  cases r2
  exact ⟨i, rfl, slM_of (e2.K.trans hK) g2 (r.ext e2) p2⟩
theorem slm_ff {fa : Loc → Heap → Res Val} {σ : L2.St} {H : Hp} {Q : VK} (q : tM X.K (fun ls h => (fa ls h).bind fun v h => evP (.slm false false) [v] h) σ H Q) :
    tSl (rSlAll X) (tM X.K fa) tNoPart tNoPart σ H Q := by
  refine tM_bind (g := fun ls v h => evP (.slm false false) [v] h) q fun v x S ls hK g l r p => ?_
  exact slM_of hK g r p
theorem prim_ok (F : CF X c k cl) {p : P} {es : List ME} {e : Expr} {xs : List Expr} (hv : primV c p e = some xs) (hes : PEs X cl es xs) : PB X cl (.prim p es) e := by
  unfold primV at hv
  split at hv
  · -- BinOp
    split at hv
    · rename_i hb
      cases hv
      obtain ⟨a, b, rfl, h1, h2, _, _⟩ := hes.two
      obtain ⟨r, ho, hr⟩ := bin_ok (X := X) hb
      exact .of (PE.wk (pe_op ho h1 h2) fun σ H Q q => tOp_M hr (by rw [ev2] at q; exact q)) rfl
    · cases hv
  · -- USub
    split at hv
    · rename_i hb
      cases hv
      subst hb
      obtain ⟨a, rfl, h1, _⟩ := hes.one
      refine .of (PE.wk (pe_un un_neg h1) fun σ H Q q => ?_) rfl
      rw [ev1] at q
      exact tUn_M (p := .neg) (fun S v x Q hK g r p => by
        obtain ⟨i, rfl, p⟩ := int1_of (f := fun i => .ok (.int (-i)) S.h) p
        cases r
        exact ⟨i, rfl, old_int g p⟩) q
    · cases hv
  · -- Compare
    split at hv
    · rename_i hb
      cases hv
      obtain ⟨a, b, rfl, h1, h2, _, p2⟩ := hes.two
      exact cmp_PB F hb h1 h2 p2
    · split at hv
      · rename_i hb
        cases hv
        obtain ⟨a, rfl, h1, _⟩ := hes.one
        exact is_PB hb h1
      · split at hv
        · rename_i hb
          cases hv
          obtain ⟨a, b, rfl, h1, h2, _, p2⟩ := hes.two
          exact din_PB F hb h1 h2 p2
        · cases hv
  · -- Tuple
    split at hv
    · rename_i hb
      cases hv
      subst hb
      exact .of (PE.wk (pe_tup hes.pa) fun σ H Q q => tTup_M q) rfl
    · cases hv
  · -- List
    split at hv
    · cases hv
      exact .of (PE.wk (pe_lst hes.pa) fun σ H Q q => tLst_M q) rfl
    · cases hv
  · -- slices
    split at hv
    · cases hv
      obtain ⟨a, b, d, rfl, h1, h2, h3⟩ := hes.three
      exact .of (PE.wk (pe_slice sl_all h1 (po_some h2) (po_some h3)) fun σ H Q q => sl_tt (by rw [ev3] at q; exact q)) rfl
    · cases hv
      obtain ⟨a, b, rfl, h1, h2, _, _⟩ := hes.two
      exact .of (PE.wk (pe_slice sl_all h1 (po_some h2) po_none) fun σ H Q q => sl_tf (by rw [ev2] at q; exact q)) rfl
    · cases hv
      obtain ⟨a, b, rfl, h1, h2, _, _⟩ := hes.two
      exact .of (PE.wk (pe_slice sl_all h1 po_none (po_some h2)) fun σ H Q q => sl_ft (by rw [ev2] at q; exact q)) rfl
    · cases hv
      obtain ⟨a, rfl, h1, _⟩ := hes.one
      exact .of (PE.wk (pe_slice sl_all h1 po_none po_none) fun σ H Q q => sl_ff (by rw [ev1] at q; exact q)) rfl
    · cases hv
      obtain ⟨a, b, d, rfl, h1, h2, h3⟩ := hes.three
      exact .of (PE.wk (pe_slice sl_all h1 (po_some h2) (po_some h3)) fun σ H Q q => slm_tt (by rw [ev3] at q; exact q)) rfl
    · cases hv
      obtain ⟨a, b, rfl, h1, h2, _, _⟩ := hes.two
      exact .of (PE.wk (pe_slice sl_all h1 (po_some h2) po_none) fun σ H Q q => slm_tf (by rw [ev2] at q; exact q)) rfl
    · cases hv
      obtain ⟨a, b, rfl, h1, h2, _, _⟩ := hes.two
      exact .of (PE.wk (pe_slice sl_all h1 po_none (po_some h2)) fun σ H Q q => slm_ft (by rw [ev2] at q; exact q)) rfl
    · cases hv
      obtain ⟨a, rfl, h1, _⟩ := hes.one
      exact .of (PE.wk (pe_slice sl_all h1 po_none po_none) fun σ H Q q => slm_ff (by rw [ev1] at q; exact q)) rfl
    · cases hv
  · -- [::-1]
    split at hv
    · cases hv
      obtain ⟨a, rfl, h1, _⟩ := hes.one
      refine .of (PE.wk (pe_revG ((rv_list.or rv_str).or rv_tup) h1) fun σ H Q q => ?_) rfl
      rw [ev1] at q
      exact tUn_M p1_rev q
    · cases hv
  · -- subscript
    split at hv
    · rename_i hb
      cases hv
      subst hb
      obtain ⟨a, b, rfl, h1, h2, _, p2⟩ := hes.two
      exact .of (PE.wk (pe_ix ix_seq h1 h2 (ix_plain p2)) fun σ H Q q => tOp_M pr_ix (by rw [ev2] at q; exact q)) rfl
    · split at hv
      · rename_i hb
        cases hv
        subst hb
        obtain ⟨a, b, rfl, h1, h2, _, p2⟩ := hes.two
        exact .of (PE.wk (pe_dget (by have := F.units; omega) h1 h2 (ix_plain p2)) fun σ H Q q => tOp_M (r := rDGet) pr_dget (by rw [ev2] at q; exact q)) rfl
      · cases hv
  · -- {}
    split at hv
    · cases hv
      cases hes
      refine .of (PE.wk pe_dnewK fun σ H Q q => ?_) rfl
      exact tDict0_M (m := _) q
    · cases hv
  · -- {k: v}
    split at hv
    · cases hv
      obtain ⟨a, b, rfl, h1, h2, _, _⟩ := hes.two
      refine .of (PE.wk (pe_disp (pps_cons h1 h2 pps_nil) rfl rfl (by simp) (Nat.le_of_ble_eq_true rfl)) fun σ H Q q => ?_) rfl
      rw [ev2] at q
      exact tDict1_M q
    · cases hv
  · -- calls
    split at hv
    · split at hv
      · rename_i hc
        cases hv
        simp only [Bool.and_eq_true, decide_eq_true_eq] at hc
        obtain ⟨⟨⟨⟨⟨⟨c1, c2⟩, c3⟩, c4⟩, c5⟩, c6⟩, c7⟩ := hc
        have e1 := str_eqb c1
        have e2 := str_eqb c2
        subst e1 e2
        obtain ⟨a, rfl, h1, p1⟩ := hes.one
        exact isi_PB F c7 c3 c5 c4 c6 h1 p1
      · cases hv
    · split at hv
      · rename_i hc
        cases hv
        simp only [Bool.and_eq_true] at hc
        obtain ⟨⟨⟨⟨⟨c1, c2⟩, c3⟩, c4⟩, c5⟩, c6⟩ := hc
        have e1 := str_eqb c1
        have e2 := str_eqb c2
        subst e1 e2
        obtain ⟨a, rfl, h1, p1⟩ := hes.one
        exact lenSet_PB F c3 c4 c5 c6 h1 p1
      · cases hv
    · split at hv
      · rename_i hc
        cases hv
        simp only [Bool.and_eq_true] at hc
        obtain ⟨⟨⟨⟨⟨c1, c2⟩, c3⟩, c4⟩, c5⟩, c6⟩ := hc
        have e1 := str_eqb c1
        have e2 := str_eqb c2
        subst e1 e2
        obtain ⟨a, rfl, h1, p1⟩ := hes.one
        exact sortSet_PB F c3 c4 c5 c6 h1 p1
      · cases hv
    · split at hv
      · rename_i hb
        split at hv
        · rename_i hc
          cases hv
          simp only [Bool.and_eq_true, Bool.not_eq_true'] at hc
          obtain ⟨⟨⟨⟨c1, c2⟩, c3⟩, c4⟩, c5⟩ := hc
          have e1 := str_eqb c1
          subst e1
          exact call_PB F hb c2 c3 c4 c5 hes
        · cases hv
      · cases hv
  · split at hv
    · rename_i hc
      cases hv
      simp only [Bool.and_eq_true, decide_eq_true_eq] at hc
      obtain ⟨⟨⟨⟨c0, c1⟩, c2⟩, c3⟩, c4⟩ := hc
      have e1 := str_eqb c1
      subst c0 e1 c4
      obtain ⟨a, b, rfl, h1, h2, p1, p2⟩ := hes.two
      exact minOr_PB F c2 c3 h1 h2 p1 p2
    · cases hv
  · cases hv
end
end M
namespace M
open PySem PySem.Spec PyProof.Rows L2
def gsOf : List Nat → TGs
  | [] => gNil
  | i :: is => gCons (gName i) (gsOf is)
def gOf (K : PySem.W.Frag) : Tg → TG
  | .name i => gName i
  | .tup is => gTup K is.length (gsOf is)
section
variable {X : Cx} {c : Ck} {k : Nat} {cl : CallFn}
theorem gsOf_ok : ∀ is : List Nat, GsOk is (gsOf is)
  | [] => gsok_nil
  | _ :: is => gsok_cons (gsOf_ok is)
theorem gOf_ok {K : PySem.W.Frag} : ∀ t : Tg, GOk K t (gOf K t)
  | .name _ => gok_name
  | .tup is => gok_tup (gsOf_ok is)
theorem pgs_of (F : CF X c k cl) : ∀ {is : List Nat} {es : List Expr}, tgNames c is es = true → PGs X es (gsOf is)
  | [], [], _ => pgs_nil
  | [], _ :: _, h => by cases h
  | _ :: _, [], h => by cases h
  | i :: is, e :: es, h => by
    cases e with
    | Name x p =>
      have h' := Bool.and_eq_true_iff.mp (show ((_ && inL x c.st) && tgNames c is es) = true from h)
      have h'' := Bool.and_eq_true_iff.mp h'.1
      exact pgs_cons (pg_nameM F h''.1 h''.2) (pgs_of F h'.2)
    | _ => cases h
theorem pg_of (F : CF X c k cl) {t : Tg} {e : Expr} (h : okTg c t e = true) : PG X e (gOf X.K t) := by
  cases t with
  | name i =>
    cases e with
    | Name x p =>
      have h' := Bool.and_eq_true_iff.mp (show (_ && inL x c.st) = true from h)
      exact pg_nameM F h'.1 h'.2
    | _ => cases h
  | tup is =>
    cases e with
    | Tuple es n p =>
      have h : tgNames c is es = true := h
      obtain ⟨e1, e2⟩ := names_each (env := X.env) h
      exact pg_tup F.calm (pgs_of F h) e1 e2
    | _ => cases h
/-- within a comprehension -/
theorem cf_blk (F : CF X c k cl) {own : List Nat} {scope : Scope} (hb : blkC c.N c.sc scope (ownP c own) = true) (s : Shared) (H : Hp) (C : Addr) (cs : List (Str × Addr)) (fp : List Addr) :
    CF (X.blk s H scope (compEnvC scope cs C X.env) fp) (ckB c scope own) k cl := by
  have B := blkOk_by hb
  have hs : (X.blk s H scope (compEnvC scope cs C X.env) fp).env.scope = relS scope c.sc := by
    rw [← F.sc]; rfl
  refine ⟨F.hN, F.nd, hs, B.kind, F.calm, F.guards, F.room, fun x hx => ?_, F.bl, F.gl, F.fns, F.cls, F.sys⟩
  have hx2 := (List.mem_filter.mp hx).2
  rw [hs]
  unfold locB at hx2
  split at hx2
  · rename_i e
    have e2 := lookup_relS_keep (sc := c.sc) (k := .local) (fun z => nomatch z) e
    exact ⟨.inl e2, .inr e2⟩
  · rename_i e
    have e2 := lookup_relS_keep (sc := c.sc) (k := .cell) (fun z => nomatch z) e
    refine ⟨.inr e2, .inl ?_⟩
    show (scope.names.lookup x == some .cell) = true
    rw [e]
    rfl
  · cases hx2
theorem pk_of : ∀ {kes : List ME} {kws : List Keyword}, PEs X cl kes (kws.map fun k => k.value) → PK X kws (tAs X.K (evEs cl kes))
  | _, [], h => by cases h; exact pk_nilM
  | _, ⟨n, v, p⟩ :: kws, h => by
    cases h with
    | cons h1 _ t => exact pk_consM h1 (pk_of t)
theorem kwN_len : ∀ {kws : List Keyword}, kwsE kws = true → (kwN kws).length = kws.length
  | [], _ => rfl
  | ⟨n, v, p⟩ :: kws, h => by
    have h' := Bool.and_eq_true_iff.mp (show (n.isSome && kwsE kws) = true from h)
    cases n with
    | none => cases h'.1
    | some n =>
      show (n :: kwN kws).length = _
      rw [List.length_cons, kwN_len h'.2, List.length_cons]
theorem call_ok (F : CF X c k cl) {f : Nat} {es kes : List ME} {sel : List (Sum Nat Val)} {x : Str} {args : List Expr} {kws : List Keyword} {p pos : Pos} (h : callOk c f sel x args kws = true) (he : PEs X cl es args) (hk : PEs X cl kes (kws.map fun k => k.value)) :
    PE X (.Call (.Name x p) args kws pos) (tM X.K (evE cl (.call f es kes sel))) := by
  unfold callOk at h
  cases ef : c.fns[f]? with
  | none => rw [ef] at h; cases h
  | some fe =>
    rw [ef] at h
    simp only [Bool.and_eq_true, List.any_eq_true, decide_eq_true_eq] at h
    obtain ⟨⟨⟨⟨⟨h0, h1⟩, h2⟩, h3⟩, h4⟩, sh, h5, ⟨h6, h7⟩, h8⟩ := h
    have e1 := eq_of_beq h1
    have e7 := strsSame_eq h7
    have e8 := selSame_eq h8
    subst e1 e8
    refine pe_callM F ef (Option.isNone_iff_eq_none.mp h0) h5 h2 h3 he.plain h4 e7 h6.symm he.len ?_ he.pa (pk_of hk)
    rw [← e7, kwN_len h4]
    have := hk.len
    rwa [List.length_map] at this
theorem mth_PB {p : P} {nm : Str} {T : String} {o : ME} {es : List ME} {ob : Expr} {args : List Expr} {apos cpos : Pos} (h : mthN p = some (nm, T)) (hb : baseE ob = true) (hl : (apos.endLine == cpos.line) = true) (hn : args.length < 28) (ho : PE X ob (tM X.K (evE cl o))) (he : PEs X cl es args) :
    PE X (.Call (.Attribute ob nm apos) args [] cpos) (tM X.K (evE cl (.meth p o es))) := by
  obtain ⟨id, r, pa, sl, ty, hm, hp, ht⟩ := mth_ok (X := X) h
  cases args with
  | nil =>
    cases he
    exact PE.wk (pe_bm0 pa sl ty hm ho (base_plain hb) hl) fun σ H Q q => tBM0_M hp ht q
  | cons e rest =>
    have hp' := Bool.and_eq_true_iff.mp (show (plainE e && plainsE rest) = true from he.plain)
    refine PE.wk (pe_bm pa sl ty hm ho he.pa (base_plain hb) ?_ hl (star_plain hp'.1) (backs_plain hp'.2)) fun σ H Q q => tBM_M hp ht q
    rw [backs_all he.plain]
    show decide (_ + 0 + 0 < 30) = true
    exact decide_eq_true (by omega)
theorem frz_M {f : Loc → Heap → Res Val} {σ : L2.St} {H : Hp} {Q : VK} (q : tM X.K (fun ls h => (f ls h).bind fun v h => frzV v h) σ H Q) : tM X.K f σ H Q := by
  refine tM_bind (g := fun _ v h => frzV v h) q fun v x S ls hK g l r p => ?_
  cases v with
  | ref n =>
    unfold frzV at p
    simp only at p
    cases e : S.h[n]? with
    | none => rw [e] at p; exact p.elim
    | some o =>
      rw [e] at p
      cases o with
      | list xs =>
        obtain ⟨a, ys, rfl, ha, hH, rz⟩ := ref_lst g r e
        exact p (S.frz n) (.ref a) rfl (good_frz g) ext_frz ⟨a, ys, rfl, ⟨hH, not_live_frz g ha⟩, rz.ext ext_frz⟩
      | dead => exact p.elim
      | dict ks vs =>
        obtain ⟨a, h1, rfl⟩ := r
        obtain ⟨kvs, hH, rk, rv⟩ := g.obj n _ a e h1
        exact p (S.frz n) (.ref a) rfl (good_frz g) ext_frz ⟨a, kvs, rfl, ⟨hH, not_live_frz g h1⟩, rk.ext ext_frz, rv.ext ext_frz⟩
      | inst _ _ _ => exact p.elim
  | _ => exact old_val g r p
theorem lit_ok (F : CF X c k cl) {v : Val} {e : Expr} (h : litOk c v e = true) : PE X e (tM X.K (evE cl (.lit v))) ∧ trueE e = true := by
  unfold litOk at h
  split at h
  · split at h
    · rename_i e1
      rw [same_eq h]
      exact ⟨pe_litM e1, rfl⟩
    · cases h
  · simp only [Bool.and_eq_true, List.any_eq_true] at h
    obtain ⟨⟨h1, h2⟩, q, h3, h4, h5⟩ := h
    have e1 := eq_of_beq h4
    have e2 := same_eq h5
    obtain ⟨x0, v0⟩ := q
    simp only at e1 e2
    subst e1 e2
    exact ⟨pe_glbM F h3 h1 h2, rfl⟩
  · rw [same_eq h]
    exact ⟨pe_dict0, rfl⟩
  · split at h
    · rename_i e1 e2
      rw [same_eq h]
      exact ⟨pe_dict1 e1 e2, rfl⟩
    · cases h
  · split at h
    · rename_i e1
      simp only [Bool.and_eq_true, decide_eq_true_eq] at h
      obtain ⟨⟨⟨h1, h2⟩, h3⟩, h4⟩ := h
      rw [same_eq h4]
      exact ⟨pe_dictC e1 h1 h2 (fun z => by rw [z] at h3; cases h3), rfl⟩
    · cases h
  · cases h
/-! ### tests -/
theorem bool_pw {op : BoolOp} {vs : List Expr} {pos : Pos} {t : TT} (h : PT X (.BoolOp op vs pos) t) : PW X (.BoolOp op vs pos) t := ⟨fun wh pins s σ H Q I q => h.run pins s σ H Q I q⟩
theorem evT_and (a b : ME) : evT cl (.and a b) = fun ls h => (evT cl a ls h).bind fun t h => if t then evT cl b ls h else .ok false h := by
  funext ls h
  show ((evE cl a ls h).bind _).bind truthR = ((evE cl a ls h).bind truthR).bind _
  cases evE cl a ls h with
  | ok v h1 =>
    simp only [bind_ok]
    unfold truthR
    cases e : truth h1 v with
    | none => rfl
    | some t =>
      cases t with
      | true => rfl
      | false =>
        simp only [bind_ok, Bool.false_eq_true, if_false]
        rw [e]
  | exc _ _ => rfl
  | stuck => rfl
theorem evT_or (a b : ME) : evT cl (.or a b) = fun ls h => (evT cl a ls h).bind fun t h => if t then .ok true h else evT cl b ls h := by
  funext ls h
  show ((evE cl a ls h).bind _).bind truthR = ((evE cl a ls h).bind truthR).bind _
  cases evE cl a ls h with
  | ok v h1 =>
    simp only [bind_ok]
    unfold truthR
    cases e : truth h1 v with
    | none => rfl
    | some t =>
      cases t with
      | false => rfl
      | true =>
        simp only [bind_ok, if_true]
        rw [e]
  | exc _ _ => rfl
  | stuck => rfl
theorem evT_not (a : ME) : evT cl (.not a) = fun ls h => (evT cl a ls h).bind fun t h => .ok (!t) h := by
  funext ls h
  show ((evE cl a ls h).bind _).bind truthR = ((evE cl a ls h).bind truthR).bind _
  cases evE cl a ls h with
  | ok v h1 =>
    simp only [bind_ok]
    unfold truthR
    cases e : truth h1 v with
    | none => rfl
    | some t => rfl
  | exc _ _ => rfl
  | stuck => rfl
theorem and_PB {a b : ME} {x y : Expr} {rest : List Expr} {pos : Pos} (ha : PB X cl a x) (hb : if rest.isEmpty then PB X cl b y else PB X cl b (.BoolOp .And (y :: rest) pos)) : PB X cl (.and a b) (.BoolOp .And (x :: y :: rest) pos) := by
  have h2 : PE X (.BoolOp .And (y :: rest) pos) (tM X.K (evE cl b)) ∧ (tst b = true → PW X (.BoolOp .And (y :: rest) pos) (tB X.K (evT cl b))) := by
    cases rest with
    | nil => exact ⟨pe_one hb.pe, fun t => pw_and1 (hb.pt t)⟩
    | cons _ _ => exact ⟨hb.pe, fun t => bool_pw (hb.pt t)⟩
  refine ⟨PE.wk (pe_andT ha.pe h2.1) fun σ H Q q => tAndT_M q, fun t => ?_⟩
  have t' := Bool.and_eq_true_iff.mp (show (tst a && tst b) = true from t)
  refine PT.wk (pw_and (ha.pt t'.1) (h2.2 t'.2)).pt fun σ H Q q => ?_
  rw [evT_and] at q
  exact tAnd_M q
theorem or_PB {a b : ME} {x y : Expr} {rest : List Expr} {pos : Pos} (ha : PB X cl a x) (hb : if rest.isEmpty then PB X cl b y else PB X cl b (.BoolOp .Or (y :: rest) pos)) : PB X cl (.or a b) (.BoolOp .Or (x :: y :: rest) pos) := by
  have h2 : PE X (.BoolOp .Or (y :: rest) pos) (tM X.K (evE cl b)) ∧ (tst b = true → PW X (.BoolOp .Or (y :: rest) pos) (tB X.K (evT cl b))) := by
    cases rest with
    | nil => exact ⟨pe_one hb.pe, fun t => pw_or1 (hb.pt t)⟩
    | cons _ _ => exact ⟨hb.pe, fun t => bool_pw (hb.pt t)⟩
  refine ⟨PE.wk (pe_orT ha.pe h2.1) fun σ H Q q => tOrT_M q, fun t => ?_⟩
  have t' := Bool.and_eq_true_iff.mp (show (tst a && tst b) = true from t)
  refine PT.wk (pw_or (ha.pt t'.1) (h2.2 t'.2)).pt fun σ H Q q => ?_
  rw [evT_or] at q
  exact tOr_M q
theorem not_PB {a : ME} {x : Expr} {pos : Pos} (ha : PB X cl a x) : PB X cl (.not a) (.UnaryOp .Not x pos) := by
  refine ⟨PE.wk (pe_notT ha.pe) fun σ H Q q => tNotT_M q, fun t => ?_⟩
  refine PT.wk (pt_not (ha.pt t)) fun σ H Q q => ?_
  rw [evT_not] at q
  exact tNot_M q
theorem evT_if (t a b : ME) : evE cl (.ite t a b) = fun ls h => (evT cl t ls h).bind fun d h => if d then evE cl a ls h else evE cl b ls h := by
  funext ls h
  show (evE cl t ls h).bind _ = ((evE cl t ls h).bind truthR).bind _
  cases evE cl t ls h with
  | ok v h1 => rfl
  | exc _ _ => rfl
  | stuck => rfl
theorem ite_PB {t a b : ME} {x y z : Expr} {pos : Pos} (ht : PT X x (tB X.K (evT cl t))) (ha : PB X cl a y) (hb : PB X cl b z) : PB X cl (.ite t a b) (.IfExp x y z pos) := by
  refine ⟨PE.wk (pe_ifExp ht ha.pe hb.pe) fun σ H Q q => ?_, fun t => by cases t⟩
  rw [evT_if] at q
  exact tIf_M q
theorem chain_PB (F : CF X c k cl) {p q : P} {o1 o2 : CmpOp} {a b d : ME} {x y z : Expr} {pos : Pos} (hp : cmpOf o1 = some p) (hq : cmpOf o2 = some q) (ha : PB X cl a x) (hb : PB X cl b y) (hd : PB X cl d z) (hz : plainE z = true) :
    PB X cl (.chain p q a b d) (.Compare x [o1, o2] [y, z] pos) := by
  obtain ⟨⟨r1, h1, h2⟩, b1⟩ := cmp_ok F.units hp
  obtain ⟨⟨r2, h3, h4⟩, b2⟩ := cmp_ok F.units hq
  have bp : boolP p := fun vs h h' v e => by
    match vs, e with
    | [v1, v2], e => exact b1 v1 v2 h h' v e
    | [], e => cases o1 <;> cases hp <;> cases e
    | [_], e => cases o1 <;> cases hp <;> cases e
    | _ :: _ :: _ :: _, e => cases o1 <;> cases hp <;> cases e
  have hm : lastMarks [o1, o2] [y, z] = false := by
    show behindInMarks o2 z = false
    exact mark_plain hz
  have w : ∀ σ H Q, tM X.K (evE cl (.chain p q a b d)) σ H Q → tChain r1 r2 (tM X.K (evE cl a)) (tM X.K (evE cl b)) (tM X.K (evE cl d)) σ H Q := fun σ H Q z => tChain_M h2 h4 bp z
  refine ⟨PE.wk (pe_chain h1 h3 ha.pe hb.pe hd.pe hm) w, fun _ => PT.wk (pt_chain h1 h3 ha.pe hb.pe hd.pe hm) fun σ H Q z => tTest_M w (fun ls h h' v e => ?_) z⟩
  have e : ((evE cl a ls h).bind fun x h => (evE cl b ls h).bind fun y h => (evP p [x, y] h).bind fun (v : Val) h => (match v with
    | .bool true => (evE cl d ls h).bind fun z h => evP q [y, z] h
    | .bool false => .ok (.bool false) h
    | _ => .stuck)) = .ok v h' := e
  cases e1 : evE cl a ls h with
  | ok u1 h1 =>
    rw [e1] at e
    simp only [bind_ok] at e
    cases e2 : evE cl b ls h1 with
    | ok u2 h2 =>
      rw [e2] at e
      simp only [bind_ok] at e
      cases e3 : evP p [u1, u2] h2 with
      | ok u3 h3 =>
        rw [e3] at e
        simp only [bind_ok] at e
        obtain ⟨bb, rfl⟩ := b1 _ _ _ _ _ e3
        cases bb with
        | false => cases e; exact ⟨false, rfl⟩
        | true =>
          simp only at e
          cases e4 : evE cl d ls h3 with
          | ok u4 h4 => rw [e4] at e; exact b2 _ _ _ _ _ e
          | exc _ _ => rw [e4] at e; cases e
          | stuck => rw [e4] at e; cases e
      | exc _ _ => rw [e3] at e; cases e
      | stuck => rw [e3] at e; cases e
    | exc _ _ => rw [e2] at e; cases e
    | stuck => rw [e2] at e; cases e
  | exc _ _ => rw [e1] at e; cases e
  | stuck => rw [e1] at e; cases e
end
end M
namespace M
open PySem PySem.Spec PyProof.Rows L2
theorem extW_acc2 {S S' : RS} {D : Addr} {o : HO} (e : ExtW S S') (hD : D ∈ S'.own) : ExtW S (S'.acc2 D o) :=
  ⟨e.K, e.pre, fun a u h nl => let ⟨h1, n1⟩ := e.keep a u h nl; ⟨acc2_H hD a u n1 h1, n1⟩⟩
theorem res_assoc {A B C : Type} {r : Res A} {f : A → Heap → Res B} {g : B → Heap → Res C} : (r.bind f).bind g = r.bind fun a h => (f a h).bind g := by
  cases r <;> rfl
section
variable {X : Cx} {D : Addr} {cl : CallFn}
theorem deedL_M {fe : Loc → Heap → Res Val} : DeedM X D accL (fun ls h => (fe ls h).bind fun a h => .ok [a] h) (deedL (tM X.K fe) D) := by
  intro S0 Sb S1 S Q cont ls τ us o hr n0 hDb hK g e0 eb l hD hH ra p
  obtain ⟨ys, rfl, ru⟩ := ra
  refine ⟨S, ls, hK, rfl, g, l, ?_⟩
  have p : Post S1 ((fe ls S.h).bind fun a h => cont (us ++ [a]) h) Q := by
    simp only [res_assoc, bind_ok] at p
    exact p
  refine PostG.bind2 p fun v y S2 g2 e2 r2 p2 => ?_
  have hD2 := e2.sub D hD
  have hz : (us ++ [v]).length ≤ SL := hr _ _ p2
  have r2' := ru.ext e2
  refine ⟨ys, e2.kow D _ hD hH, ?_, S2.acc2 D (.lst (ys ++ [y])), us ++ [v], _, rfl, good_acc2 g2 hD2, ext_acc2 n0 (e0.trans e2) hD2, extW_acc2 (eb.trans e2.w) hD2, hD2, upd_same, ⟨_, rfl, rels_acc2 hD2 (r2'.app (.one r2))⟩, p2⟩
  rw [← ru.len]
  rw [List.length_append] at hz
  exact lt_sl (by show us.length < SL; simp at hz; omega)
theorem deedD_M {fk fv : Loc → Heap → Res Val} : DeedM X D accD (fun ls h => (fk ls h).bind fun a h => (fv ls h).bind fun b h => .ok [.tup [a, b]] h) (deedD (tM X.K fk) (tM X.K fv) D) := by
  intro S0 Sb S1 S Q cont ls τ us o hr n0 hDb hK g e0 eb l hD hH ra p
  obtain ⟨kvs, ks, vs, rfl, hu, hl, rk, rv⟩ := ra
  refine ⟨S, ls, hK, rfl, g, l, ?_⟩
  have p : Post S1 ((fk ls S.h).bind fun a h => (fv ls h).bind fun b h => cont (us ++ [.tup [a, b]]) h) Q := by
    simp only [res_assoc, bind_ok] at p
    exact p
  refine PostG.bind2 p fun a y S2 g2 e2 r2 p2 => ?_
  refine ⟨S2, ls, e2.K.trans hK, rfl, g2, l.ext e2, PostG.bind2 p2 fun b z S3 g3 e3 r3 p3 => ?_⟩
  have hD3 := e3.sub D (e2.sub D hD)
  have hz := hr _ _ p3
  have hz2 : (dictP (us ++ [.tup [a, b]])).isSome = true := hz.2
  rw [dictP_snoc, hu] at hz2
  have hk : okKey a = true := by
    cases q : okKey a with
    | true => rfl
    | false => unfold putP at hz2; simp [q] at hz2
  obtain ⟨kk, rfl⟩ := key_of hk r2
  have rk3 := (rk.ext e2).ext e3
  have rv3 := (rv.ext e2).ext e3
  have rp := put_rel hk (r2.ext e3) r3 rk3 rv3
  have hlen : kvs.length < sizeLine := by
    have e := rk.len
    rw [List.length_map] at e
    rw [← e]
    have := hz.1
    rw [List.length_append] at this
    exact lt_sl (by show ks.length < SL; simp at this; omega)
  refine ⟨kvs, kk, rfl, e3.kow D _ (e2.sub D hD) (e2.kow D _ hD hH), hlen, S3.acc2 D (.dK (putK kvs kk z)), us ++ [.tup [a, b]], _, rfl, good_acc2 g3 hD3, ext_acc2 n0 ((e0.trans e2).trans e3) hD3, extW_acc2 ((eb.trans e2.w).trans e3.w) hD3, hD3, upd_same, ⟨_, putKs ks a, putVs ks vs a b, rfl, ?_, ?_, rels_acc2 hD3 rp.1, rels_acc2 hD3 rp.2⟩, p3⟩
  · rw [dictP_snoc, hu]
    unfold putP
    simp only [hk, if_true]
  · rw [List.length_append]
    unfold putKs
    split
    · simp; omega
    · rw [List.length_append]; simp; omega
/-- the readings of the clauses -/
def clasG (K : PySem.W.Frag) (cl : CallFn) : MG → List Cla
  | .last => []
  | .more t i cs r => ⟨tI K (evI cl i), gOf K t, tB K (evC cl cs), t.slots ++ r.slots⟩ :: clasG K cl r
theorem evG_more (t : Tg) (i : MI) (cs : List ME) (r : MG) (f : Loc → Heap → Res (List Val)) (ls : Loc) (h : Heap) : evG cl (.more t i cs r) f ls h = (evI cl i ls h).bind fun p h => turns p.2 (stepG t (t.slots ++ r.slots) (evC cl cs) (evG cl r f) ls) p.1 h := rfl
theorem deedG_M {A : AccK} {f : Loc → Heap → Res (List Val)} {last : Deed} (hl : DeedM X D A f last) : ∀ g : MG, DeedM X D A (evG cl g f) (tCls last (clasG X.K cl g))
  | .last => hl
  | .more t i cs r => by
    intro S0 Sb S1 S Q cont ls τ us o hr n0 hDb hK g e0 eb l hD hH ra p
    have p : Post S1 ((evI cl i ls S.h).bind fun p h => (turns p.2 (stepG t (t.slots ++ r.slots) (evC cl cs) (evG cl r f) ls) p.1 h).bind fun a h => cont (us ++ a) h) Q := by
      rw [evG_more, res_assoc] at p
      exact p
    refine ⟨S, ls, hK, rfl, g, l, PostG.bind2 p fun q J S2 g2 e2 hJ p2 => ?_⟩
    obtain ⟨items, pin⟩ := q
    exact turns_M (c := ⟨tI X.K (evI cl i), gOf X.K t, tB X.K (evC cl cs), t.slots ++ r.slots⟩) (gOf_ok t) rfl rfl (fun j hj => List.mem_append_left _ hj) (deedG_M hl r) hr n0 hDb (e2.K.trans hK) g2 (e0.trans e2) (eb.trans e2.w) (l.ext e2) (e2.sub D hD) (e2.kow D _ hD hH) (A.ext e2 ra) hJ p2
theorem tTurns_mono {c : Cla} {deed : Deed} {J : It} {N N' : Hp → Prop} {τ : L2.St} {G : Hp} (q : tTurns c deed J N τ G) (h : ∀ G, N G → N' G) : tTurns c deed J N' τ G := by
  obtain ⟨W, w0, k⟩ := q
  exact ⟨W, w0, fun i n G w => (k i n G w).imp (fun z => ⟨z.1, h _ z.2⟩) id⟩
theorem made_M {A : AccK} {f : Loc → Heap → Res (List Val)} {fin : List Val → Heap → Res Val} {last : Addr → Deed} {o0 : HO} {t : Tg} {i : MI} {cs : List ME} {r : MG} {σ : L2.St} {H : Hp} {Q : VK} (hl : ∀ D, DeedM X D A f (last D)) (h0 : ∀ S, A.rel S o0 []) (hok : ∀ (S : RS) us h, Post S (fin us h) Q → A.ok us)
    (hend : ∀ (S S' : RS) D us o, Good S → S.H D = none → Good S' → Ext S S' → D ∈ S'.own → S'.H D = some o → A.rel S' o us → Post S (fin us S'.h) Q → Q (.ref D) S'.H)
    (q : tM X.K (fun ls h => (evG cl (.more t i cs r) f ls h).bind fin) σ H Q) : tMade o0 ⟨tI X.K (evI cl i), gOf X.K t, tB X.K (evC cl cs), t.slots ++ r.slots⟩ (fun D => tCls (last D) (clasG X.K cl r)) σ H Q := by
  have q : tM X.K (fun ls h => (evI cl i ls h).bind fun p h => (turns p.2 (stepG t (t.slots ++ r.slots) (evC cl cs) (evG cl r f) ls) p.1 h).bind fin) σ H Q := by
    have e : (fun ls h => (evG cl (.more t i cs r) f ls h).bind fin) = (fun (ls : Loc) (h : Heap) => (evI cl i ls h).bind fun p h => (turns p.2 (stepG t (t.slots ++ r.slots) (evC cl cs) (evG cl r f) ls) p.1 h).bind fin) := by
      funext ls h
      rw [evG_more, res_assoc]
    rw [e] at q
    exact q
  refine tM_bind (g := fun ls p h => (turns p.2 (stepG t (t.slots ++ r.slots) (evC cl cs) (evG cl r f) ls) p.1 h).bind fin) q fun p J S ls hK g1 l1 hJ p1 => ?_
  obtain ⟨items, pin⟩ := p
  intro D nD
  have e := ext_acc (o := o0) nD
  refine tTurns_mono (turns_M (S := S.acc D o0) (S0 := S) (Sb := S.acc D o0) (S1 := S) (us := []) (cont := fin) (Q := Q) (D := D) (A := A) (c := ⟨tI X.K (evI cl i), gOf X.K t, tB X.K (evC cl cs), t.slots ++ r.slots⟩) (gOf_ok t) rfl rfl (fun j hj => List.mem_append_left _ hj) (deedG_M (hl D) r) (fun us h z => hok _ us h z) nD (List.mem_cons_self ..) hK (good_acc g1 nD) e (Ext.refl).w (lrel_acc nD l1) (List.mem_cons_self ..) upd_same (h0 _) (hJ.ext e) p1) fun G z => ?_
  obtain ⟨S', us, o, rfl, g', e', _, hD, hH, ra, p2⟩ := z
  exact hend S S' D us o g1 nD g' e' hD hH ra p2
theorem madeL_M {m : Bool} {fe : Loc → Heap → Res Val} {t : Tg} {i : MI} {cs : List ME} {r : MG} {σ : L2.St} {H : Hp} {Q : VK} (q : tM X.K (fun ls h => (evG cl (.more t i cs r) (fun ls h => (fe ls h).bind fun a h => .ok [a] h) ls h).bind fun us h => okList m us h) σ H Q) :
    tMade (.lst []) ⟨tI X.K (evI cl i), gOf X.K t, tB X.K (evC cl cs), t.slots ++ r.slots⟩ (fun D => tCls (deedL (tM X.K fe) D) (clasG X.K cl r)) σ H Q :=
  made_M (A := accL) (fun D => deedL_M) (fun S => ⟨[], rfl, rfl⟩) (fun S us h p => by
    have z : us.length ≤ SL := (ite_of p).1
    exact z) (fun S S' D us o g n g' e hD hH ra p => by
    obtain ⟨ys, rfl, ru⟩ := ra
    exact end_lst g n g' e hD hH ru p) q
theorem madeD_M {m : Bool} {fk fv : Loc → Heap → Res Val} {t : Tg} {i : MI} {cs : List ME} {r : MG} {σ : L2.St} {H : Hp} {Q : VK} (q : tM X.K (fun ls h => (evG cl (.more t i cs r) (fun ls h => (fk ls h).bind fun a h => (fv ls h).bind fun b h => .ok [.tup [a, b]] h) ls h).bind fun us h => okDict m us h) σ H Q) :
    tMade (.dK []) ⟨tI X.K (evI cl i), gOf X.K t, tB X.K (evC cl cs), t.slots ++ r.slots⟩ (fun D => tCls (deedD (tM X.K fk) (tM X.K fv) D) (clasG X.K cl r)) σ H Q :=
  made_M (A := accD) (fun D => deedD_M) (fun S => ⟨[], [], [], rfl, rfl, Nat.le_refl _, rfl, rfl⟩) (fun S us h p => by
    unfold okDict at p
    cases e : dictP us with
    | none => rw [e] at p; exact p.elim
    | some q =>
      rw [e] at p
      exact ⟨(ite_of p).1, by rw [e]; rfl⟩) (fun S S' D us o g n g' e hD hH ra p => by
    obtain ⟨kvs, ks, vs, rfl, hu, _, rk, rv⟩ := ra
    unfold okDict at p
    rw [hu] at p
    obtain ⟨_, p⟩ := ite_of p
    cases m with
    | true => exact end_mutO g n g' e hD (show ORel S' D (.dict ks vs) from ⟨kvs, hH, rk, rv⟩) p
    | false => exact end_frzD g n g' e hD hH rk rv p) q
end
theorem turn_list {el : Expr} {gs : List Comprehension} {sc : Scope} {p : Pos} {d : Nat} {it acc : Value} {env : Env} {g : Comprehension} (hg : gs[d]? = some g) (ha : g.is_async = 0) (hb : ∀ g', gs[d + 1]? = some g' → g'.is_async = 0) :
    compTurn (.ListComp el gs sc p) d it acc env = turnM (.ListComp el gs sc p) d g.target g.iter g.ifs it acc env (match gs[d + 1]? with
      | some g' => startM (.ListComp el gs sc p) (d + 1) g'.iter acc env
      | none => emitL el acc env) := by
  unfold compTurn turnM
  simp only [hg, ha]
  cases h : gs[d + 1]? with
  | none => rfl
  | some g' =>
    have hz := hb g' h
    simp only [hz]
    unfold startM
    simp only [bne_self_eq_false, Bool.false_eq_true, if_false, bind_assoc, pure_bind]
    rfl
theorem turn_dict {kx vx : Expr} {gs : List Comprehension} {sc : Scope} {p : Pos} {d : Nat} {it acc : Value} {env : Env} {g : Comprehension} (hg : gs[d]? = some g) (ha : g.is_async = 0) (hb : ∀ g', gs[d + 1]? = some g' → g'.is_async = 0) :
    compTurn (.DictComp kx vx gs sc p) d it acc env = turnM (.DictComp kx vx gs sc p) d g.target g.iter g.ifs it acc env (match gs[d + 1]? with
      | some g' => startM (.DictComp kx vx gs sc p) (d + 1) g'.iter acc env
      | none => emitD kx vx acc env) := by
  unfold compTurn turnM
  simp only [hg, ha]
  cases h : gs[d + 1]? with
  | none => rfl
  | some g' =>
    have hz := hb g' h
    simp only [hz]
    unfold startM
    simp only [bne_self_eq_false, Bool.false_eq_true, if_false, bind_assoc, pure_bind]
    rfl

/-! ### clauses, checked -/
def ClsOk (X : Cx) (cl : CallFn) : MG → List Comprehension → Prop
  | .last, [] => True
  | .more t i cs r, gn :: gs => plainE gn.iter = true ∧ PI X gn.target gn.iter (tI X.K (evI cl i)) ∧ PG X gn.target (gOf X.K t) ∧ PTs X gn.ifs (tB X.K (evC cl cs)) ∧ ClsOk X cl r gs
  | _, _ => False
section
variable {X : Cx} {cl : CallFn} {c : Ck} {k : Nat}
theorem does_of {e : Expr} {D : Addr} {emit : Sem Unit} {last : Deed} (he : NoGen e) (hx : ∀ e s, ¬ X.xe e s) (hc : X.calm = true) (hs : ∀ g ∈ clausesOf e, g.is_async = 0)
    (ht : ∀ (d : Nat) (g : Comprehension), (clausesOf e)[d]? = some g → ∀ it : Addr, compTurn e d (.ref it) (.ref D) X.env = turnM e d g.target g.iter g.ifs (.ref it) (.ref D) X.env (match (clausesOf e)[d + 1]? with
      | some g' => startM e (d + 1) g'.iter (.ref D) X.env
      | none => emit)) (hemit : ∀ vs, Does X vs emit last) : ∀ (r : MG) (gs : List Comprehension) (d : Nat) (vs : List Nat), ClsOk X cl r gs → (clausesOf e).drop d = gs → (∀ i ∈ r.slots, i ∈ vs) →
    Does X vs (match (clausesOf e)[d]? with
      | some g' => startM e d g'.iter (.ref D) X.env
      | none => emit) (tCls last (clasG X.K cl r))
  | .last, [], d, vs, _, hd, _ => by
    have e1 : (clausesOf e)[d]? = none := List.getElem?_eq_none (List.drop_eq_nil_iff.mp hd)
    rw [e1]
    exact hemit vs
  | .last, _ :: _, _, _, h, _, _ => h.elim
  | .more _ _ _ _, [], _, _, h, _, _ => h.elim
  | .more t i cs r, gn :: gs, d, vs, ⟨h1, h2, h3, h4, h5⟩, hd, hv => by
    have e1 : (clausesOf e)[d]? = some gn := by
      have z : ((clausesOf e).drop d)[0]? = some gn := by rw [hd]; rfl
      rw [List.getElem?_drop] at z
      exact z
    have e2 : (clausesOf e).drop (d + 1) = gs := by
      have z : ((clausesOf e).drop d).drop 1 = gs := by rw [hd]; rfl
      rw [List.drop_drop] at z
      exact z
    rw [e1]
    exact does_start (c := ⟨tI X.K (evI cl i), gOf X.K t, tB X.K (evC cl cs), t.slots ++ r.slots⟩) he hx hc e1 (hs _ (List.mem_of_getElem? e1)) hv h2 (fold_plain h1) (ht d gn e1) h3 h4
      (does_of he hx hc hs ht hemit r gs (d + 1) (t.slots ++ r.slots) h5 e2 fun j hj => List.mem_append_right _ hj)
theorem ownP_snd' (c : Ck) (own : List Nat) : (ownP c own).map (·.2) = own := by
  unfold ownP
  rw [List.map_map]
  show own.map (fun i => i) = own
  simp
/-- what is known of a comprehension's parts -/
structure MadeOk (X : Cx) (c : Ck) (cl : CallFn) (t : Tg) (i : MI) (cs : List ME) (r : MG) (scope : Scope) (gn : Comprehension) (gs : List Comprehension) : Prop where
  sync : ∀ g ∈ gn :: gs, g.is_async = 0
  plain : plainE gn.iter = true
  pi : PI X gn.target gn.iter (tI X.K (evI cl i))
  blk : BlkOk X.N X.env.scope scope (ownP c (t.slots ++ r.slots))
  pg : ∀ s H C cs' fp, PG (blkX X s H scope C cs' fp) gn.target (gOf X.K t)
  pt : ∀ s H C cs' fp, PTs (blkX X s H scope C cs' fp) gn.ifs (tB X.K (evC cl cs))
  rest : ∀ s H C cs' fp, ClsOk (blkX X s H scope C cs' fp) cl r gs
section
variable {t : Tg} {i : MI} {cs : List ME} {r : MG} {scope : Scope} {gn : Comprehension} {gs : List Comprehension}
abbrev claOf (K : PySem.W.Frag) (cl : CallFn) (t : Tg) (i : MI) (cs : List ME) (r : MG) : Cla := ⟨tI K (evI cl i), gOf K t, tB K (evC cl cs), t.slots ++ r.slots⟩
theorem gn_eta (h : gn.is_async = 0) : gn = ⟨gn.target, gn.iter, gn.ifs, 0⟩ := by
  cases gn
  cases h
  rfl
theorem list_parts (F : CF X c k cl) (M : MadeOk X c cl t i cs r scope gn gs) {elt : Expr} {pos : Pos} {te : TE} (he : ∀ s H C cs' fp, PE (blkX X s H scope C cs' fp) elt te) : ∀ s H C cs' fp, PG (blkX X s H scope C cs' fp) gn.target (claOf X.K cl t i cs r).g ∧ PTs (blkX X s H scope C cs' fp) gn.ifs (claOf X.K cl t i cs r).tt ∧
    ∀ D, Does (blkX X s H scope C cs' fp) (claOf X.K cl t i cs r).vs (match gs[0]? with
      | some g' => startM (.ListComp elt (gn :: gs) scope pos) 1 g'.iter (.ref D) (blkX X s H scope C cs' fp).env
      | none => emitL elt (.ref D) (blkX X s H scope C cs' fp).env) (tCls (deedL te D) (clasG X.K cl r)) := fun s H C cs' fp =>
  ⟨M.pg s H C cs' fp, M.pt s H C cs' fp, fun D => does_of (X := blkX X s H scope C cs' fp) (e := .ListComp elt (gn :: gs) scope pos) (emit := emitL elt (.ref D) (blkX X s H scope C cs' fp).env) noGen_list (fun _ _ z => z) F.calm M.sync
    (fun d g hg it => turn_list hg (M.sync _ (List.mem_of_getElem? hg)) fun g' hg' => M.sync _ (List.mem_of_getElem? hg')) (fun vs => does_list (fun _ _ z => z) (he s H C cs' fp)) r gs 1 _ (M.rest s H C cs' fp) rfl fun j hj => List.mem_append_right _ hj⟩
theorem dict_parts (F : CF X c k cl) (M : MadeOk X c cl t i cs r scope gn gs) {kx vx : Expr} {pos : Pos} {tk tv : TE} (hk : ∀ s H C cs' fp, PE (blkX X s H scope C cs' fp) kx tk) (hv : ∀ s H C cs' fp, PE (blkX X s H scope C cs' fp) vx tv) : ∀ s H C cs' fp, PG (blkX X s H scope C cs' fp) gn.target (claOf X.K cl t i cs r).g ∧ PTs (blkX X s H scope C cs' fp) gn.ifs (claOf X.K cl t i cs r).tt ∧
    ∀ D, Does (blkX X s H scope C cs' fp) (claOf X.K cl t i cs r).vs (match gs[0]? with
      | some g' => startM (.DictComp kx vx (gn :: gs) scope pos) 1 g'.iter (.ref D) (blkX X s H scope C cs' fp).env
      | none => emitD kx vx (.ref D) (blkX X s H scope C cs' fp).env) (tCls (deedD tk tv D) (clasG X.K cl r)) := fun s H C cs' fp =>
  ⟨M.pg s H C cs' fp, M.pt s H C cs' fp, fun D => does_of (X := blkX X s H scope C cs' fp) (e := .DictComp kx vx (gn :: gs) scope pos) (emit := emitD kx vx (.ref D) (blkX X s H scope C cs' fp).env) noGen_dict (fun _ _ z => z) F.calm M.sync
    (fun d g hg it => turn_dict hg (M.sync _ (List.mem_of_getElem? hg)) fun g' hg' => M.sync _ (List.mem_of_getElem? hg')) (fun vs => does_dict (fun _ _ z => z) (hk s H C cs' fp) (hv s H C cs' fp)) r gs 1 _ (M.rest s H C cs' fp) rfl fun j hj => List.mem_append_right _ hj⟩
theorem made_list (F : CF X c k cl) (M : MadeOk X c cl t i cs r scope gn gs) {elt : Expr} {pos : Pos} {el v : ME} {m : Bool} (he : ∀ s H C cs' fp, PE (blkX X s H scope C cs' fp) elt (tM X.K (evE cl el))) :
    PE X (.ListComp elt (gn :: gs) scope pos) (tM X.K (evE cl (.comps false m (.more t i cs r) el v))) := by
  have hN : X.N.Nodup := by rw [F.hN]; exact F.nd
  obtain ⟨tg, it0, ifs, z⟩ := gn
  have z0 : z = 0 := M.sync _ List.mem_cons_self
  subst z0
  refine PE.wk (pe_made (o0 := .lst []) (c := claOf X.K cl t i cs r) (newAcc := newList []) (deed := fun D => tCls (deedL (tM X.K (evE cl el)) D) (clasG X.K cl r)) (m := fun acc env => match gs[0]? with
      | some g' => startM (.ListComp elt (⟨tg, it0, ifs, 0⟩ :: gs) scope pos) 1 g'.iter acc env
      | none => emitL elt acc env) noGen_list rfl rfl new_list F.calm hN M.pi M.blk (ownP_snd' ..).symm (fold_plain M.plain)
      (fun it acc env => turn_list rfl (M.sync _ List.mem_cons_self) fun g' hg' => M.sync _ (List.mem_of_getElem? hg')) (list_parts F M he)) fun σ H Q q => madeL_M q
theorem made_dict (F : CF X c k cl) (M : MadeOk X c cl t i cs r scope gn gs) {kx vx : Expr} {pos : Pos} {el v : ME} {m : Bool} (hk : ∀ s H C cs' fp, PE (blkX X s H scope C cs' fp) kx (tM X.K (evE cl el))) (hv : ∀ s H C cs' fp, PE (blkX X s H scope C cs' fp) vx (tM X.K (evE cl v))) :
    PE X (.DictComp kx vx (gn :: gs) scope pos) (tM X.K (evE cl (.comps true m (.more t i cs r) el v))) := by
  have hN : X.N.Nodup := by rw [F.hN]; exact F.nd
  obtain ⟨tg, it0, ifs, z⟩ := gn
  have z0 : z = 0 := M.sync _ List.mem_cons_self
  subst z0
  refine PE.wk (pe_made (o0 := .dK []) (c := claOf X.K cl t i cs r) (newAcc := newDict) (deed := fun D => tCls (deedD (tM X.K (evE cl el)) (tM X.K (evE cl v)) D) (clasG X.K cl r)) (m := fun acc env => match gs[0]? with
      | some g' => startM (.DictComp kx vx (⟨tg, it0, ifs, 0⟩ :: gs) scope pos) 1 g'.iter acc env
      | none => emitD kx vx acc env) noGen_dict rfl rfl new_dict F.calm hN M.pi M.blk (ownP_snd' ..).symm (fold_plain M.plain)
      (fun it acc env => turn_dict rfl (M.sync _ List.mem_cons_self) fun g' hg' => M.sync _ (List.mem_of_getElem? hg')) (dict_parts F M hk hv)) fun σ H Q q => madeD_M q
end
end
end M
namespace M
open PySem PySem.Spec PyProof.Rows L2
/-! ### classes -/
theorem lookF_rel {S : RS} {f : T} : ∀ {ns : List T} {vs : List Val} {fs : List (Str × V)} {w : Val}, fs.map (·.1) = ns.map toS → Rels S vs (fs.map (·.2)) → lookF ns vs f = some w → ∃ y, fs.lookup (toS f) = some y ∧ Rel S w y
  | [], _, _, _, _, _, h => by cases h
  | _ :: _, [], _, _, _, _, h => by cases h
  | n :: ns, v :: vs, [], w, e, _, _ => by cases e
  | n :: ns, v :: vs, (g, y) :: fs, w, e, r, h => by
    obtain ⟨e1, e2⟩ := List.cons.inj (show g :: fs.map (·.1) = toS n :: ns.map toS from e)
    subst e1
    obtain ⟨y', t, h1, r1, r2⟩ := r
    obtain ⟨rfl, rfl⟩ := List.cons.inj (show y :: fs.map (·.2) = y' :: t from h1)
    unfold lookF at h
    by_cases z : n = f
    · subst z
      rw [if_pos rfl] at h
      cases h
      refine ⟨y, ?_, r1⟩
      rw [List.lookup_cons, beq_self_eq_true]
    · rw [if_neg z] at h
      obtain ⟨y2, h2, r3⟩ := lookF_rel (ns := ns) (vs := vs) (fs := fs) e2 r2 h
      refine ⟨y2, ?_, r3⟩
      have zz : (toS f == toS n) = false := by
        rw [Bool.eq_false_iff]
        intro q
        exact z (toS_inj (eq_of_beq q)).symm
      rw [List.lookup_cons, zz]
      exact h2
theorem look_none {ns : List T} {m : T} : ∀ {fs : List (Str × V)}, fs.map (·.1) = ns.map toS → (ns.any fun n => n == m) = false → fs.lookup (toS m) = none := by
  induction ns with
  | nil => intro fs e _; cases fs with
    | nil => rfl
    | cons _ _ => cases e
  | cons n ns ih =>
    intro fs e h
    cases fs with
    | nil => rfl
    | cons p fs =>
      obtain ⟨g, y⟩ := p
      obtain ⟨e1, e2⟩ := List.cons.inj (show g :: fs.map (·.1) = toS n :: ns.map toS from e)
      subst e1
      simp only [List.any_cons, Bool.or_eq_false_iff] at h
      have zz : (toS m == toS n) = false := by
        rw [Bool.eq_false_iff]
        intro q
        have := (toS_inj (eq_of_beq q)).symm
        subst this
        simp at h
      rw [List.lookup_cons, zz]
      exact ih e2 h.2
theorem putF_rel {S : RS} {f : T} {v : Val} {y : V} (rv : Rel S v y) : ∀ {ns : List T} {vs : List Val} {fs : List (Str × V)}, fs.map (·.1) = ns.map toS → Rels S vs (fs.map (·.2)) → (putF (toS f) y fs).map (·.1) = (putFN ns f).map toS ∧ Rels S (putFV ns vs f v) ((putF (toS f) y fs).map (·.2))
  | [], vs, fs, e, r => by
    cases fs with
    | cons _ _ => cases e
    | nil => cases vs <;> exact ⟨rfl, .one rv⟩
  | n :: ns, vs, [], e, _ => by cases e
  | n :: ns, [], (g, z) :: fs, e, r => by cases r
  | n :: ns, w :: vs, (g, z) :: fs, e, r => by
    obtain ⟨e1, e2⟩ := List.cons.inj (show g :: fs.map (·.1) = toS n :: ns.map toS from e)
    subst e1
    obtain ⟨y', t, h1, r1, r2⟩ := r
    obtain ⟨rfl, rfl⟩ := List.cons.inj (show z :: fs.map (·.2) = y' :: t from h1)
    obtain ⟨q1, q2⟩ := putF_rel rv (ns := ns) (vs := vs) (fs := fs) e2 r2
    by_cases zf : n = f
    · subst zf
      have ep : putF (toS n) y ((toS n, z) :: fs) = (toS n, y) :: fs := if_pos rfl
      have en : putFN (n :: ns) n = n :: ns := if_pos List.mem_cons_self
      have ev : putFV (n :: ns) (w :: vs) n v = v :: vs := if_pos rfl
      rw [ep, en, ev]
      exact ⟨congrArg (toS n :: ·) e2, ⟨y, _, rfl, rv, r2⟩⟩
    · have ep : putF (toS f) y ((toS n, z) :: fs) = (toS n, z) :: putF (toS f) y fs := if_neg fun q => zf (toS_inj q)
      have ev : putFV (n :: ns) (w :: vs) f v = w :: putFV ns vs f v := if_neg zf
      have en : putFN (n :: ns) f = n :: putFN ns f := by
        unfold putFN
        by_cases m : f ∈ ns
        · rw [if_pos (List.mem_cons_of_mem _ m), if_pos m]
        · rw [if_neg (fun q => (List.mem_cons.mp q).elim (fun q => zf q.symm) m), if_neg m]
          rfl
      rw [ep, en, ev]
      exact ⟨congrArg (toS n :: ·) q1, ⟨z, _, rfl, r1, q2⟩⟩
theorem ref_ins {S : RS} (g : Good S) {n : Nat} {x : V} {c : T} {ns : List T} {vs : List Val} (r : Rel S (.ref n) x) (e : S.h[n]? = some (.inst c ns vs)) :
    ∃ a dx fs, x = .ref a ∧ S.r[n]? = some a ∧ S.H a = some (.ins (He.ga S.K (toS c)) dx fs) ∧ S.H dx = some (.own a) ∧ ¬ Live S dx ∧ fs.map (·.1) = ns.map toS ∧ Rels S vs (fs.map (·.2)) := by
  obtain ⟨a, ha, rfl⟩ := r
  obtain ⟨dx, fs, h⟩ := g.obj n _ a e ha
  exact ⟨a, dx, fs, rfl, ha, h⟩
section
variable {X : Cx} {c : Ck} {k : Nat} {cl : CallFn}
theorem pe_attrM (F : CF X c k cl) {e : ClsS} (he : e ∈ c.cls) {cx f : T} (hx : e.x = toS cx) (hf : toS f ∈ e.flds) {o : ME} {ob : Expr} {pos : Pos} (ho : PE X ob (tM X.K (evE cl o))) (hb : baseE ob = true) : PE X (.Attribute ob (toS f) pos) (tM X.K (evE cl (.attr cx f o))) := by
  have C := F.cls e he
  refine PE.wk (pe_fld ho (base_plain hb)) fun σ H Q q => ?_
  refine tM_bind (g := fun ls v h => attrV h cx f v) q fun v x S ls hK g l r p => ?_
  cases v with
  | ref n =>
    unfold attrV at p
    simp only at p
    cases e1 : S.h[n]? with
    | none => rw [e1] at p; exact p.elim
    | some ob =>
      rw [e1] at p
      cases ob with
      | inst c' ns vs =>
        simp only at p
        by_cases ec : c' = cx
        case neg => rw [if_neg ec] at p; exact p.elim
        rw [if_pos ec] at p
        subst ec
        cases e2 : lookF ns vs f with
        | none => rw [e2] at p; exact p.elim
        | some w =>
          rw [e2] at p
          obtain ⟨a, dx, fs, rfl, ha, hH, hd, nl, e3, r3⟩ := ref_ins g r e1
          obtain ⟨y, h4, r4⟩ := lookF_rel e3 r3 e2
          rw [hK, ← hx] at hH
          exact ⟨a, _, dx, fs, y, rfl, hH, C.cls, C.noat _ hf, h4, old_val g r4 p⟩
      | _ => exact p.elim
  | _ => exact p.elim
/-- a field's store -/
theorem tFldS_M (F : CF X c k cl) {e : ClsS} (he : e ∈ c.cls) {cx f : T} (hx : e.x = toS cx) (hf : toS f ∈ e.flds) {fo fv : Loc → Heap → Res Val} {D : Ends} {σ : L2.St} {H : Hp}
    (q : tS X.K (fun ls h => (fv ls h).bind fun v h => (fo ls h).bind fun x h => ref1S x h fun n => ins1S h n fun c' ns vs => (if c' = cx ∧ ns.length < 500 then .ok (.nx ls) (h.set n (.inst cx (putFN ns f) (putFV ns vs f v))) else .stuck : Res M.Flow)) D σ H) : sFld X.K (tM X.K fo) (tM X.K fv) (toS f) D σ H := by
  have C := F.cls e he
  refine tS_bind (g := fun ls v h => (fo ls h).bind fun x h => ref1S x h fun n => ins1S h n fun c' ns vs => (if c' = cx ∧ ns.length < 500 then .ok (.nx ls) (h.set n (.inst cx (putFN ns f) (putFV ns vs f v))) else .stuck : Res M.Flow)) q fun v x S ls hK g l rv p => ?_
  refine ⟨S, ls, hK, rfl, g, l, PF.bind p fun o ov S2 g2 e2 ro p2 => ?_⟩
  cases o with
  | ref n =>
    unfold ref1S ins1S at p2
    simp only at p2
    cases e5 : S2.h[n]? with
    | none => rw [e5] at p2; exact p2.elim
    | some ob =>
      rw [e5] at p2
      cases ob with
      | inst c' ns vs =>
        simp only at p2
        split at p2
        · rename_i cc
          obtain ⟨rfl, hl⟩ := cc
          obtain ⟨a, dx, fs, rfl, ha, hH, hd, nl, e3, r3⟩ := ref_ins g2 ro e5
          have hK2 : S2.K = X.K := e2.K.trans hK
          have rv2 := rv.ext e2
          have ex : Ext S2 (S2.mut n a (.ins (He.ga S2.K (toS c')) dx (putF (toS f) x fs)) (.inst c' (putFN ns f) (putFV ns vs f v))) := ext_mut g2 ha e5 (fun z => nomatch z)
          obtain ⟨q1, q2⟩ := putF_rel (f := f) rv2 e3 r3
          have hlen : fs.length = ns.length := by
            have := congrArg List.length e3
            simpa using this
          refine ⟨a, He.ga X.K e.x, dx, fs, rfl, by rw [hH, hK2, hx], C.cls, C.noat _ hf, by omega, ?_⟩
          have nda : dx ≠ a := fun z => by rw [z, hH] at hd; cases hd
          have p3 := p2 (S2.mut n a (.ins (He.ga S2.K (toS c')) dx (putF (toS f) x fs)) (.inst c' (putFN ns f) (putFV ns vs f v))) σ rfl (good_mut g2 ha e5 (fun z => nomatch z) ⟨dx, putF (toS f) x fs, upd_same, ?_, ?_, q1, q2.ext ex⟩) (e2.trans ex) ((l.ext e2).ext ex)
          · show D.nx σ (upd S2.H a _)
            rw [hx, ← hK2]
            exact p3
          · show upd S2.H a _ dx = _
            rw [upd_ne nda]
            exact hd
          · exact fun z => nl (live_mut e5 (fun z => nomatch z) z)
        · exact p2.elim
      | _ => exact p2.elim
  | _ => exact p2.elim
/-! ### a new one -/
theorem room_make {A : Around} (h : Room (2 * k + 1) A) (C : Addr) (us : List Value) : Room (2 * k) (A.under (.builtin "type.__call__" { pos := .ref C :: us, kw := [] })) := h.make C us []
theorem run_makeM (F : CF X c k cl) {C f : Addr} {fd : FuncData} {ps : List Str} {sh : Shape} {i : Nat} {cx : T} {pins : List (Addr × PySem.Obj)} {σ : L2.St} {s : Shared} {S : RS} {Q : VK} {us : List Value} {xs : List V} {vs : List Val}
    (hC : C = He.ga X.K (toS cx)) (M : Mk X.K C f) (hb : Bnd X.K fd ps sh) (G : FnG X.prog X.w X.K X.mg X.base k f fd ps (cl i)) (I : Inv X pins σ S.H s) (hK : S.K = X.K) (g : Good S) (r : Vals xs us) (q : Rels S vs xs) (l1 : us.length + 1 = sh.n) (l2 : sh.ks = [])
    (p : Post S (match selV sh.sel (.ref S.h.length :: vs) with
      | some us => (cl i us (S.h ++ [.inst cx [] []])).bind fun r h' => if isN r then .ok (.ref S.h.length) h' else .stuck
      | none => .stuck) Q) : wpAny (model X.prog X.w) X.A (call (.ref C) us []) (EP X pins σ Q) X.xe s := by
  have fr0 : S.H s.heap.objs.size = none := I.hok.fresh (Nat.le_refl _)
  have fr1 : S.H (s.heap.objs.size + 1) = none := I.hok.fresh (Nat.le_succ _)
  have dne : s.heap.objs.size ≠ s.heap.objs.size + 1 := Nat.ne_of_lt (Nat.lt_succ_self _)
  have I' := I.made (C := C)
  let S1 : RS := S.put s.heap.objs.size (.own (s.heap.objs.size + 1))
  have g1 : Good S1 := good_put g fr0
  have fr2 : S1.H (s.heap.objs.size + 1) = none := by
    show upd S.H _ _ _ = none
    rw [upd_ne dne.symm]
    exact fr1
  let S2 : RS := S1.new (s.heap.objs.size + 1) (.ins C s.heap.objs.size []) (.inst cx [] [])
  have nl : ¬ Live S2 s.heap.objs.size := fun z => by
    rcases live_new g1 z with z | z
    · exact g.notLive fr0 z
    · exact dne z
  have g2 : Good S2 := good_new g1 fr2 ⟨s.heap.objs.size, [], by show upd _ _ _ _ = _; rw [upd_same, hC, ← hK]; rfl, by show upd _ _ _ _ = _; rw [upd_ne dne]; exact upd_same, nl, rfl, rfl⟩
  have e2 : Ext S S2 := (ext_put fr0).trans (ext_new g1 fr2)
  have hr : Rel S2 (.ref S.h.length) (.ref (s.heap.objs.size + 1)) := rel_new g1
  obtain ⟨zs, hz, hB⟩ := hb { s with heap := (s.heap.push PySem.W.emptyDict).push (PySem.W.instObj C s.heap.objs.size) } (.ref (s.heap.objs.size + 1) :: us) [] I'.kIn (by rw [← l1]; rfl) (by rw [l2]; rfl)
  rw [List.append_nil] at hz
  rw [l2] at hB
  cases e : selV sh.sel (.ref S.h.length :: vs) with
  | none => rw [e] at p; exact p.elim
  | some zv =>
    rw [e] at p
    obtain ⟨zx, h1, h2⟩ := sel_rel (S := S2) (us := .ref (s.heap.objs.size + 1) :: us) (by rw [show S2.K = X.K from hK]; exact hz) e (xs := .ref (s.heap.objs.size + 1) :: xs) (.cons rfl r) ⟨_, _, rfl, hr, q.ext e2⟩
    have gd : (X.A.under (.builtin "type.__call__" { pos := .ref C :: us, kw := [] })).guards = some [] := by
      unfold Around.under
      simp only
      rw [F.guards]
      rfl
    have pp : Post S2 (cl i zv S2.h) (fun v H2 => v = .non ∧ Q (.ref (s.heap.objs.size + 1)) H2) := by
      have p : Post S ((cl i zv S2.h).bind fun r h' => if isN r then .ok (.ref S.h.length) h' else .stuck) Q := p
      cases ec : cl i zv S2.h with
      | ok v h' =>
        rw [ec] at p
        simp only [bind_ok] at p
        obtain ⟨cn, p⟩ := ite_of p
        intro S3 y h3 g3 e3 r3
        cases v with
        | none =>
          cases r3
          exact ⟨rfl, p S3 (.ref (s.heap.objs.size + 1)) h3 g3 (e2.trans e3) (hr.ext e3)⟩
        | _ => cases cn
      | exc _ _ => rw [ec] at p; exact p
      | stuck => rw [ec] at p; exact p
    refine wpAny_call (make_map I.kIn M.makes M.init (eq_of_beq M.fn) ?_)
    refine codeAny_mono (G _ X.stack _ S2 ⟨.ref (s.heap.objs.size + 1) :: us, []⟩ zs zx zv _ (room_make F.room C us) gd hK g2 (I'.env0.make C us []) hB h1 h2 pp) fun rr s' hq => ?_
    cases rr with
    | error e => exact False.elim hq
    | ok fl =>
      cases fl with
      | ret u =>
        obtain ⟨v, H2, I2, r2, rfl, q2⟩ := I'.after hq
        cases r2
        exact ⟨rfl, .ref (s.heap.objs.size + 1), H2, I2, rfl, q2⟩
      | next => exact False.elim hq
      | brk => exact False.elim hq
      | cont => exact False.elim hq
theorem evs_length : ∀ {es : List ME} {ls : Loc} {h h' : Heap} {vs : List Val}, evEs cl es ls h = .ok vs h' → vs.length = es.length
  | [], _, _, _, _, e => by cases e; rfl
  | m :: r, ls, h, h', vs, e => by
    unfold evEs at e
    cases e1 : evE cl m ls h with
    | ok v h1 =>
      rw [e1] at e
      simp only [bind_ok] at e
      cases e2 : evEs cl r ls h1 with
      | ok ws h2 => rw [e2] at e; cases e; rw [List.length_cons, evs_length e2, List.length_cons]
      | exc _ _ => rw [e2] at e; cases e
      | stuck => rw [e2] at e; cases e
    | exc _ _ => rw [e1] at e; cases e
    | stuck => rw [e1] at e; cases e
/-- arguments by places, behind what is there -/
theorem with_args {pins : List (Addr × PySem.Obj)} {σ : L2.St} {H : Hp} {s : Shared} {f : Value} {first : List Value} {args : List Expr} {es : List ME} {pos : Pos} {Q : VK} (kp : PySem.W.keepIn X.K f = true) (hes : PEs X cl es args) (I : Inv X pins σ H s)
    (q : tAs X.K (evEs cl es) σ H fun vs H1 => ∀ us s1, Inv X pins σ H1 s1 → Vals vs us → wpAny (model X.prog X.w) X.A (call f (first ++ us) []) (EP X pins σ Q) X.xe s1) :
    wpAny (model X.prog X.w) X.A (callWith pos f first (backTo pos (starEach args X.env)) (backToKw pos (keywordEach [] X.env))) (EP X pins σ Q) X.xe s := by
  cases args with
  | nil =>
    cases hes
    obtain ⟨S0, ls, hK0, hH0, g0, l0, p0⟩ := q
    subst hH0
    have k := PostG.here p0 g0 (show Rels S0 [] [] from rfl)
    exact PySem.W.callWith_KW0 (h₀ := X.base) I.ok.mod.kin kp rfl (wpAny_pure ⟨I.kIn, k [] s I .nil⟩) rfl
  | cons e args =>
    have hp := hes.plain
    have hp' := Bool.and_eq_true_iff.mp (show (plainE e && plainsE args) = true from hp)
    exact PySem.W.callWith_K (h₀ := X.base) I.ok.mod.kin kp (thn (hes.pa.run pos pins s σ H _ I q) fun us s1 ⟨vs, H1, I1, r, k⟩ => ⟨I1.kIn, k us s1 I1 r⟩) (star_plain hp'.1) (backs_plain hp'.2)
theorem pe_makeM (F : CF X c k cl) {i : Nat} {fe : FnS} {sh : Shape} {args : List Expr} {p pos : Pos} {es : List ME} {e : ClsS} {cx : T} (he : e ∈ c.cls) (hx : e.x = toS cx) (hi : c.fns[i]? = some fe) (ho : fe.own = some e.x) (hini : fe.x = ("__init__" : Str)) (hs : sh ∈ fe.shapes) (hks : sh.ks = []) (hl : args.length + 1 = sh.n)
    (hg : glB c.sc e.x = true) (hn : nmOk e.x = true) (hes : PEs X cl es args) : PE X (.Call (.Name e.x p) args [] pos) (tM X.K (evE cl (.make cx i es sh.sel))) := by
  obtain ⟨h1, _, _⟩ := nmOk_ok hn
  have C := F.cls e he
  obtain ⟨f, fd, ps, hf, hB, G⟩ := F.fns i fe hi
  have M : Mk X.K (He.ga X.K e.x) f := by
    unfold FAt at hf
    rw [ho] at hf
    simp only [if_pos hini] at hf
    exact hf
  refine ⟨fun pins s σ H Q I q => ?_⟩
  refine wpAny_Call_Name_kw (ld_glob I (glB_ok F hg) C.mg ?_ h1)
  refine with_args M.kp hes I ?_
  obtain ⟨S0, ls, hK0, hH0, g0, l0, p0⟩ := q
  subst hH0
  refine ⟨S0, ls, hK0, rfl, g0, l0, ?_⟩
  refine PostG.bind (g := fun vs h => (match selV sh.sel (.ref h.length :: vs) with
    | some us => (cl i us (h ++ [.inst cx [] []])).bind fun r h' => if isN r then .ok (.ref h.length) h' else .stuck
    | none => .stuck : Res Val)) p0 fun vs xs S1 e1 g1 x1 r1 p1 us s1 I1 ru => ?_
  refine run_makeM F (cx := cx) (by rw [hx]) M (hB sh hs) G I1 (x1.K.trans hK0) g1 ru r1 ?_ hks p1
  show us.length + 1 = _
  rw [← ru.length, ← r1.len, evs_length e1, hes.len, hl]
theorem isInst_ok {h : Heap} {cx m : T} {v : Val} (e : isInst h cx m v = true) : ∃ n ns vs, v = .ref n ∧ h[n]? = some (.inst cx ns vs) ∧ (ns.any fun n => n == m) = false := by
  unfold isInst at e
  cases v with
  | ref n =>
    simp only at e
    cases q : h[n]? with
    | none => rw [q] at e; cases e
    | some o =>
      rw [q] at e
      cases o with
      | inst c' ns vs =>
        simp only [Bool.and_eq_true, Bool.not_eq_true'] at e
        have e1 := eq_of_beq e.1
        subst e1
        exact ⟨n, ns, vs, rfl, q, e.2⟩
      | _ => cases e
  | _ => cases e
theorem pe_mcallM (F : CF X c k cl) {i : Nat} {fe : FnS} {sh : Shape} {args : List Expr} {apos pos : Pos} {es : List ME} {o : ME} {ob : Expr} {e : ClsS} {cx m : T} (he : e ∈ c.cls) (hx : e.x = toS cx) (hi : c.fns[i]? = some fe) (ho : fe.own = some e.x) (hini : fe.x ≠ ("__init__" : Str)) (hm : fe.x = toS m) (hs : sh ∈ fe.shapes) (hks : sh.ks = []) (hl : args.length + 1 = sh.n)
    (hb : baseE ob = true) (hal : (apos.endLine == pos.line) = true) (hlen : args.length < 28) (hob : PE X ob (tM X.K (evE cl o))) (hes : PEs X cl es args) : PE X (.Call (.Attribute ob fe.x apos) args [] pos) (tM X.K (evE cl (.mcall cx m i o es sh.sel))) := by
  have C := F.cls e he
  obtain ⟨f, fd, ps, hf, hB, G⟩ := F.fns i fe hi
  have M : Meth X.K (He.ga X.K e.x) fe.x f := by
    unfold FAt at hf
    rw [ho] at hf
    simp only [if_neg hini] at hf
    exact hf
  have hform : methodCallForm (args.length + ([] : List Keyword).length) (backTo pos (starEach args X.env)) (backToKw pos (keywordEach [] X.env)) = true := by
    unfold methodCallForm
    rw [backs_all hes.plain]
    show decide (args.length + 0 + 0 < 30) = true
    exact decide_eq_true (by omega)
  refine ⟨fun pins s σ H Q I q => ?_⟩
  refine PySem.W.methodCall_KW (pl := do
      let b ← importBound ob X.env
      pure (b.getD true)) (thn (hob.run pins s σ H (fun x H1 => ∃ a dx fs, x = V.ref a ∧ H1 a = some (.ins (He.ga X.K e.x) dx fs) ∧ fs.lookup fe.x = none ∧ tAs X.K (evEs cl es) σ H1 fun vs H2 => ∀ us s1, Inv X pins σ H2 s1 → Vals vs us → wpAny (model X.prog X.w) X.A (call (.ref f) ([.ref a] ++ us) []) (EP X pins σ Q) X.xe s1) I ?_) fun ov s1 ⟨x, H1, I1, r1, a, dx, fs, ex, hH, hlk, q2⟩ => ?_) ?_
  · refine tM_bind (g := fun ls v h => if isInst h cx m v then (evEs cl es ls h).bind fun vs h => (match selV sh.sel (v :: vs) with
      | some us => cl i us h
      | none => .stuck) else .stuck) q fun v x S ls hK g l r p => ?_
    obtain ⟨ci, p⟩ := ite_of p
    obtain ⟨n, ns, vs, rfl, hn, hno⟩ := isInst_ok ci
    obtain ⟨a, dx, fs, rfl, ha, hH, hd, nl, e3, r3⟩ := ref_ins g r hn
    refine ⟨a, dx, fs, rfl, by rw [hH, hK, hx], by rw [hm]; exact look_none e3 hno, S, ls, hK, rfl, g, l, ?_⟩
    refine PostG.bind (g := fun vs h => (match selV sh.sel (.ref n :: vs) with
      | some us => cl i us h
      | none => .stuck : Res Val)) p fun vs xs S1 e1 g1 x1 rs p1 us s1 I1 ru => ?_
    have k := run_M F (Q := Q) (hB sh hs) G I1 (x1.K.trans hK) g1 (us := .ref a :: us) (xs := .ref a :: xs) (vs := .ref n :: vs) (.cons rfl ru) (ws := []) (ys := []) (wv := []) ⟨_, _, rfl, r.ext x1, rs⟩ .nil rfl ?_ ?_ ?_
    · rw [hks] at k
      exact k
    · show us.length + 1 = _
      rw [← ru.length, ← rs.len, evs_length e1, hes.len, hl]
    · rw [hks]; rfl
    · rw [List.append_nil]
      exact p1
  · subst ex
    cases r1
    refine getmeth_ok I1 hH C.cls M hlk ?_
    exact with_args M.kp hes I1 q2
  · refine mcall_of (base_plain hb) fun ov => ?_
    unfold methodCall
    rw [hform]
    unfold calleeOf methodCallPos
    simp only [hal, if_true, Bool.not_true, Bool.false_or, pure_bind]
theorem cls_at {c : Ck} {x : Str} (h : (c.cls.any fun e => e.x == x) = true) : ∃ e ∈ c.cls, e.x = x := by
  obtain ⟨e, h1, h2⟩ := List.any_eq_true.mp h
  exact ⟨e, h1, eq_of_beq h2⟩
theorem sh_at {fe : FnS} {sel : List (Sum Nat Val)} {n : Nat} (h : shOk fe sel n = true) : ∃ sh ∈ fe.shapes, n + 1 = sh.n ∧ sh.ks = [] ∧ sel = sh.sel := by
  obtain ⟨sh, h1, h2⟩ := List.any_eq_true.mp h
  simp only [Bool.and_eq_true, decide_eq_true_eq, List.isEmpty_iff] at h2
  exact ⟨sh, h1, h2.1.1, h2.1.2, selSame_eq h2.2⟩
theorem attr_PE (F : CF X c k cl) {cx f : T} {nm : Str} {o : ME} {ob : Expr} {pos : Pos} (h : attrOk c cx f nm = true) (hb : baseE ob = true) (ho : PE X ob (tM X.K (evE cl o))) : PE X (.Attribute ob nm pos) (tM X.K (evE cl (.attr cx f o))) := by
  unfold attrOk at h
  obtain ⟨h1, h2⟩ := Bool.and_eq_true_iff.mp h
  obtain ⟨e, h3, h4⟩ := List.any_eq_true.mp h2
  obtain ⟨h5, h6⟩ := Bool.and_eq_true_iff.mp h4
  rw [eq_of_beq h1]
  exact pe_attrM F h3 (eq_of_beq h5) (inL_ok h6) ho hb
theorem make_PE (F : CF X c k cl) {cx : T} {i : Nat} {sel : List (Sum Nat Val)} {x : Str} {es : List ME} {args : List Expr} {p pos : Pos} (h : makeOk c cx i sel x args.length = true) (hes : PEs X cl es args) : PE X (.Call (.Name x p) args [] pos) (tM X.K (evE cl (.make cx i es sel))) := by
  unfold makeOk at h
  rw [Bool.and_eq_true, Bool.and_eq_true, Bool.and_eq_true, Bool.and_eq_true] at h
  obtain ⟨⟨⟨⟨h1, h2⟩, h3⟩, h4⟩, h5⟩ := h
  obtain ⟨e, he, rfl⟩ := cls_at h4
  cases ef : c.fns[i]? with
  | none => rw [ef] at h5; cases h5
  | some fe =>
    rw [ef] at h5
    obtain ⟨h6, h7⟩ := Bool.and_eq_true_iff.mp h5
    obtain ⟨h8, h9⟩ := Bool.and_eq_true_iff.mp h6
    obtain ⟨sh, q1, q2, q3, rfl⟩ := sh_at h7
    exact pe_makeM F he (eq_of_beq h1) ef (of_decide_eq_true h8) (eq_of_beq h9) q1 q3 q2 h2 h3 hes
theorem mcall_PE (F : CF X c k cl) {cx m : T} {i : Nat} {sel : List (Sum Nat Val)} {nm : Str} {o : ME} {ob : Expr} {es : List ME} {args : List Expr} {apos pos : Pos} (h : mcallOk c cx m i sel nm args.length = true) (hb : baseE ob = true) (hal : (apos.endLine == pos.line) = true) (hlen : args.length < 28)
    (hob : PE X ob (tM X.K (evE cl o))) (hes : PEs X cl es args) : PE X (.Call (.Attribute ob nm apos) args [] pos) (tM X.K (evE cl (.mcall cx m i o es sel))) := by
  unfold mcallOk at h
  rw [Bool.and_eq_true, Bool.and_eq_true] at h
  obtain ⟨⟨h1, h4⟩, h5⟩ := h
  obtain ⟨e, he, hx⟩ := cls_at h4
  cases ef : c.fns[i]? with
  | none => rw [ef] at h5; cases h5
  | some fe =>
    rw [ef] at h5
    rw [Bool.and_eq_true, Bool.and_eq_true, Bool.and_eq_true] at h5
    obtain ⟨⟨⟨h6, h7⟩, h8⟩, h9⟩ := h5
    obtain ⟨sh, q1, q2, q3, rfl⟩ := sh_at h9
    have e8 := eq_of_beq h8
    subst e8
    refine pe_mcallM F he hx ef (by rw [of_decide_eq_true h6, hx]) (fun z => ?_) (eq_of_beq h1) q1 q3 q2 hb hal hlen hob hes
    rw [z] at h7
    exact absurd h7 (by decide)
/-! ### d.get(k, w) -/
theorem tDGetd_M {fo fk fw : Loc → Heap → Res Val} {σ : L2.St} {H : Hp} {Q : VK} (q : tM X.K (fun ls h => (fo ls h).bind fun v h => if recv .dgetd v h then (fk ls h).bind fun q h => (fw ls h).bind fun w h => evP .dgetd [v, q, w] h else .stuck) σ H Q) : tDGet2 (tM X.K fo) (tM X.K fk) (tM X.K fw) σ H Q := by
  refine tM_bind (g := fun ls v h => if recv .dgetd v h then (fk ls h).bind fun q h => (fw ls h).bind fun w h => evP .dgetd [v, q, w] h else .stuck) q fun v x S ls hK g l r p => ?_
  obtain ⟨cr, p⟩ := ite_of p
  obtain ⟨ks0, vs0, e0⟩ := isDct_dr cr
  obtain ⟨a, kvs, rfl, hH, _, _⟩ := dic_of g r e0
  refine ⟨a, rfl, .inl ⟨kvs, .inl hH⟩, S, ls, hK, rfl, g, l, ?_⟩
  refine PostG.bind (g := fun q h => (fw ls h).bind fun w h => evP .dgetd [v, q, w] h) p fun q y S2 _ g2 e2 r2 p2 => ?_
  refine ⟨S2, ls, e2.K.trans hK, rfl, g2, l.ext e2, PostG.bind (g := fun w h => evP .dgetd [v, q, w] h) p2 fun w z S3 _ g3 e3 r3 p3 => ?_⟩
  have p3 : Post S3 (dgetdV S3.h v q w) Q := p3
  unfold dgetdV at p3
  cases e4 : dr S3.h v with
  | none => rw [e4] at p3; exact p3.elim
  | some d =>
    rw [e4] at p3
    cases d with
    | dict ks vs =>
      obtain ⟨c, p3⟩ := ite_of p3
      obtain ⟨a', kvs', ea, hH3, r5, r6⟩ := dic_of g3 ((r.ext e2).ext e3) e4
      cases ea
      obtain ⟨b, rfl⟩ := key_of c (r2.ext e3)
      refine ⟨_, .k hH3, ?_⟩
      rcases look_rel c (r2.ext e3) r5 r6 with ⟨u, zz, e7, e8, r7⟩ | ⟨e7, e8⟩
      · rw [e7] at p3
        rw [e8]
        exact old_val g3 r7 p3
      · rw [e7] at p3
        rw [e8]
        exact old_val g3 r3 p3
    | _ => exact p3.elim
theorem get_PE (F : CF X c k cl) {p : P} {nm : Str} {o : ME} {es : List ME} {ob : Expr} {args : List Expr} {apos cpos : Pos} (h : getOk p nm args.length = true) (hb : baseE ob = true) (hl : (apos.endLine == cpos.line) = true) (ho : PE X ob (tM X.K (evE cl o))) (he : PEs X cl es args) :
    PE X (.Call (.Attribute ob nm apos) args [] cpos) (tM X.K (evE cl (.meth p o es))) := by
  unfold getOk at h
  simp only [Bool.and_eq_true, decide_eq_true_eq] at h
  obtain ⟨⟨rfl, h2⟩, h3⟩ := h
  have en := eq_of_beq h2
  subst en
  match args, h3, he with
  | [e, f], _, he =>
    obtain ⟨m, n, rfl, h1, h2, hp1, hp2⟩ := he.two
    have tr : backTo cpos (starEach [e, f] X.env) = [(false, eval e X.env), (false, eval f X.env)] := by
      rw [star_plain hp1, star_plain hp2]
      rfl
    have few : (((backTo cpos (starEach [e, f] X.env)).all fun x => !x.1) && ((backToKw cpos (keywordEach [] X.env)).all fun x => x.1.isSome) && decide (([e, f].length + ([] : List Keyword).length + if ([] : List Keyword).isEmpty = true then 0 else 1) < 30)) = true := by
      rw [tr]
      rfl
    refine PE.wk (pe_dget2 (by have := F.units; omega) ho h1 h2 ⟨base_plain hb, few, hl, tr⟩) fun σ H Q q => tDGetd_M ?_
    have e1 : evE cl (.meth .dgetd o [m, n]) = fun ls h => (evE cl o ls h).bind fun v h => if recv .dgetd v h then (evE cl m ls h).bind fun q h => (evE cl n ls h).bind fun w h => evP .dgetd [v, q, w] h else .stuck := by
      funext ls h
      show ((evE cl o ls h).bind fun v h => if recv .dgetd v h then (evEs cl [m, n] ls h).bind fun vs h => evP .dgetd (v :: vs) h else .stuck) = _
      rw [evs2]
      simp only [res_assoc, bind_ok]
    rw [e1] at q
    exact q
end
end M
namespace M
open PySem PySem.Spec PyProof.Rows L2
variable {k : Nat} {cl : CallFn}
theorem ownP_snd (c : Ck) (own : List Nat) : (ownP c own).map (·.2) = own := by
  unfold ownP
  rw [List.map_map]
  show own.map (fun i => i) = own
  simp
theorem evC1 (m : ME) : evC cl [m] = evT cl m := by
  funext ls h
  show (evE cl m ls h).bind _ = (evE cl m ls h).bind truthR
  cases evE cl m ls h with
  | ok v h1 =>
    simp only [bind_ok]
    unfold truthR
    cases truth h1 v with
    | none => rfl
    | some t => cases t <;> rfl
  | exc _ _ => rfl
  | stuck => rfl
theorem evs_len : ∀ {es : List ME} {ls : Loc} {h h' : Heap} {vs : List Val}, evEs cl es ls h = .ok vs h' → vs.length = es.length
  | [], _, _, _, _, e => by cases e; rfl
  | m :: r, ls, h, h', vs, e => by
    unfold evEs at e
    cases e1 : evE cl m ls h with
    | ok v h1 =>
      rw [e1] at e
      simp only [bind_ok] at e
      cases e2 : evEs cl r ls h1 with
      | ok ws h2 => rw [e2] at e; cases e; rw [List.length_cons, evs_len e2, List.length_cons]
      | exc _ _ => rw [e2] at e; cases e
      | stuck => rw [e2] at e; cases e
    | exc _ _ => rw [e1] at e; cases e
    | stuck => rw [e1] at e; cases e
theorem junk_M {K : PySem.W.Frag} {σ : L2.St} {H : Hp} {Q : VK} (q : tM K (evE cl .junk) σ H Q) : False := by
  obtain ⟨S, ls, _, _, _, _, p⟩ := q
  exact p
theorem junk_B {K : PySem.W.Frag} {σ : L2.St} {H : Hp} {Q : Bool → Hp → Prop} (q : tB K (evT cl .junk) σ H Q) : False := by
  obtain ⟨S, ls, _, _, _, _, p⟩ := q
  exact p
theorem gens_nil {c c2 : Ck} {t : Tg} {i : MI} {cs : List ME} {r : MG} {gens : List Comprehension} (h : okG c c2 (.more t i cs r) gens = true) : ∃ gn gs, gens = gn :: gs ∧ plainE gn.iter = true ∧ okTg c2 t gn.target = true ∧ okI c gn.target i gn.iter = true ∧ okEs c2 cs gn.ifs = true ∧ gn.ifs.length ≤ 1 ∧ cs.all tst = true ∧ okG c2 c2 r gs = true := by
  cases gens with
  | nil => cases h
  | cons gn gs =>
    have h : (decide (gn.is_async = 0) && plainE gn.iter && okTg c2 t gn.target && okI c gn.target i gn.iter && okEs c2 cs gn.ifs && decide (gn.ifs.length ≤ 1) && (cs.all tst) && okG c2 c2 r gs) = true := h
    rw [Bool.and_eq_true, Bool.and_eq_true, Bool.and_eq_true, Bool.and_eq_true, Bool.and_eq_true, Bool.and_eq_true, Bool.and_eq_true] at h
    obtain ⟨⟨⟨⟨⟨⟨⟨_, h2⟩, h3⟩, h4⟩, h5⟩, h6⟩, h7⟩, h8⟩ := h
    exact ⟨gn, gs, rfl, h2, h3, h4, h5, of_decide_eq_true h6, h7, h8⟩
theorem lcs_parts {c : Ck} {d : Bool} {g : MG} {el v : ME} {elt : Expr} {gens : List Comprehension} {scope : Scope} {pos : Pos} {m : Bool} (h : okE c (.comps d m g el v) (.ListComp elt gens scope pos) = true) : d = false ∧ isMore g = true ∧ blkC c.N c.sc scope (ownP c g.slots) = true ∧ okG c (ckB c scope g.slots) g gens = true ∧ okE (ckB c scope g.slots) el elt = true := by
  have h : (!d && isMore g && blkC c.N c.sc scope (ownP c g.slots) && okG c (ckB c scope g.slots) g gens && okE (ckB c scope g.slots) el elt) = true := h
  rw [Bool.and_eq_true, Bool.and_eq_true, Bool.and_eq_true, Bool.and_eq_true] at h
  obtain ⟨⟨⟨⟨h1, h2⟩, h3⟩, h4⟩, h5⟩ := h
  exact ⟨by simpa using h1, h2, h3, h4, h5⟩
theorem dcs_parts {c : Ck} {d : Bool} {g : MG} {el v : ME} {kx vx : Expr} {gens : List Comprehension} {scope : Scope} {pos : Pos} {m : Bool} (h : okE c (.comps d m g el v) (.DictComp kx vx gens scope pos) = true) : d = true ∧ isMore g = true ∧ blkC c.N c.sc scope (ownP c g.slots) = true ∧ okG c (ckB c scope g.slots) g gens = true ∧ okE (ckB c scope g.slots) el kx = true ∧ okE (ckB c scope g.slots) v vx = true := by
  have h : (d && isMore g && blkC c.N c.sc scope (ownP c g.slots) && okG c (ckB c scope g.slots) g gens && okE (ckB c scope g.slots) el kx && okE (ckB c scope g.slots) v vx) = true := h
  rw [Bool.and_eq_true, Bool.and_eq_true, Bool.and_eq_true, Bool.and_eq_true, Bool.and_eq_true] at h
  obtain ⟨⟨⟨⟨⟨h1, h2⟩, h3⟩, h4⟩, h5⟩, h6⟩ := h
  exact ⟨h1, h2, h3, h4, h5, h6⟩
mutual
theorem ok_E : ∀ (m : ME) {X : Cx} {c : Ck} {e : Expr}, CF X c k cl → okE c m e = true → PB X cl m e
  | .lit v, X, c, e, F, h => by
    have h' := Bool.and_eq_true_iff.mp (show (plainE e && litOk c v e) = true from h)
    obtain ⟨h1, h2⟩ := lit_ok F h'.2
    exact .of h1 h2
  | .var i, X, c, e, F, h => by
    cases e with
    | Name x p =>
      have h' := Bool.and_eq_true_iff.mp (show ((_ && visB c.sc x) && nmOk x) = true from h)
      have h'' := Bool.and_eq_true_iff.mp h'.1
      exact .of (pe_varM F (nm_at h''.1) h''.2 h'.2) rfl
    | _ => cases h
  | .prim p es, X, c, e, F, h => by
    have h' := Bool.and_eq_true_iff.mp (show (plainE e && (match primV c p e with
      | some xs => okEs c es xs
      | none => false)) = true from h)
    cases hv : primV c p e with
    | none => rw [hv] at h'; cases h'.2
    | some xs =>
      rw [hv] at h'
      exact prim_ok F hv (ok_Es es F h'.2)
  | .and a b, X, c, e, F, h => by
    cases e with
    | BoolOp op vs pos =>
      cases op with
      | Or => cases vs with
        | nil => cases h
        | cons x vs => cases vs <;> cases h
      | And =>
        cases vs with
        | nil => cases h
        | cons x vs =>
          cases vs with
          | nil => cases h
          | cons y rest =>
            have h' := Bool.and_eq_true_iff.mp (show (okE c a x && (if rest.isEmpty then okE c b y else okE c b (.BoolOp .And (y :: rest) pos))) = true from h)
            refine and_PB (ok_E a F h'.1) ?_
            cases rest with
            | nil => exact ok_E b F h'.2
            | cons z rest => exact ok_E b F h'.2
    | _ => cases h
  | .or a b, X, c, e, F, h => by
    cases e with
    | BoolOp op vs pos =>
      cases op with
      | And => cases vs with
        | nil => cases h
        | cons x vs => cases vs <;> cases h
      | Or =>
        cases vs with
        | nil => cases h
        | cons x vs =>
          cases vs with
          | nil => cases h
          | cons y rest =>
            have h' := Bool.and_eq_true_iff.mp (show (okE c a x && (if rest.isEmpty then okE c b y else okE c b (.BoolOp .Or (y :: rest) pos))) = true from h)
            refine or_PB (ok_E a F h'.1) ?_
            cases rest with
            | nil => exact ok_E b F h'.2
            | cons z rest => exact ok_E b F h'.2
    | _ => cases h
  | .not a, X, c, e, F, h => by
    cases e with
    | UnaryOp op x pos => cases op <;> first | exact not_PB (ok_E a F h) | cases h
    | _ => cases h
  | .ite t a b, X, c, e, F, h => by
    cases e with
    | IfExp x y z pos =>
      have h1 := Bool.and_eq_true_iff.mp (show (((okE c t x && tst t) && okE c a y) && okE c b z) = true from h)
      have h2 := Bool.and_eq_true_iff.mp h1.1
      have h3 := Bool.and_eq_true_iff.mp h2.1
      exact ite_PB ((ok_E t F h3.1).pt h3.2) (ok_E a F h2.2) (ok_E b F h1.2)
    | _ => cases h
  | .chain p q a b d, X, c, e, F, h => by
    cases e with
    | Compare x ops ys pos =>
      match ops, ys, h with
      | [o1, o2], [y, z], h =>
        have h1 := Bool.and_eq_true_iff.mp (show (((((cmpOf o1 == some p) && (cmpOf o2 == some q)) && okE c a x) && okE c b y) && okE c d z) = true from h)
        have h2 := Bool.and_eq_true_iff.mp h1.1
        have h3 := Bool.and_eq_true_iff.mp h2.1
        have h4 := Bool.and_eq_true_iff.mp h3.1
        exact chain_PB F (eq_of_beq h4.1) (eq_of_beq h4.2) (ok_E a F h3.2) (ok_E b F h2.2) (ok_E d F h1.2) (okE_plain h1.2)
      | [], _, h => cases h
      | [_], _, h => cases h
      | _ :: _ :: _ :: _, _, h => cases h
      | [_, _], [], h => cases h
      | [_, _], [_], h => cases h
      | [_, _], _ :: _ :: _ :: _, h => cases h
    | _ => cases h
  | .call f es kes sel, X, c, e, F, h => by
    cases e with
    | Call fn args kws pos =>
      cases fn with
      | Name x p =>
        have h1 := Bool.and_eq_true_iff.mp (show ((callOk c f sel x args kws && okEs c es args) && okEs c kes (kws.map fun k => k.value)) = true from h)
        have h2 := Bool.and_eq_true_iff.mp h1.1
        exact .of (call_ok F h2.1 (ok_Es es F h2.2) (ok_Es kes F h1.2)) rfl
      | _ => cases h
    | _ => cases h
  | .comp m own t i cs el, X, c, e, F, h => by
    cases e with
    | ListComp elt gens scope pos =>
      have h : (match gen1 gens with
        | some (tg, iter, ifs) => plainE iter && compOk c own t scope tg && okI c tg i iter && okEs (ckB c scope own) cs ifs && decide (ifs.length ≤ 1) && (cs.all tst) && okE (ckB c scope own) el elt
        | none => false) = true := h
      cases hg : gen1 gens with
      | none => rw [hg] at h; cases h
      | some q =>
        obtain ⟨tg, iter, ifs⟩ := q
        rw [hg] at h
        have eg := gen1_ok hg
        subst eg
        have h1 := Bool.and_eq_true_iff.mp (show ((((((plainE iter && compOk c own t scope tg) && okI c tg i iter) && okEs (ckB c scope own) cs ifs) && decide (ifs.length ≤ 1)) && (cs.all tst)) && okE (ckB c scope own) el elt) = true from h)
        have h2 := Bool.and_eq_true_iff.mp h1.1
        have h3 := Bool.and_eq_true_iff.mp h2.1
        have h4 := Bool.and_eq_true_iff.mp h3.1
        have h5 := Bool.and_eq_true_iff.mp h4.1
        have h6 := Bool.and_eq_true_iff.mp h5.1
        have h7 := Bool.and_eq_true_iff.mp (show ((blkC c.N c.sc scope (ownP c own) && (t.slots.all fun i => own.contains i)) && okTg (ckB c scope own) t tg) = true from h6.2)
        have h8 := Bool.and_eq_true_iff.mp h7.1
        refine .of (PE.wk (pe_lc (own := ownP c own) (wi := tI X.K (evI cl i)) (g := gOf X.K t) (tt := tB X.K (evC cl cs)) (te := tM X.K (evE cl el)) F.calm (by rw [F.hN]; exact F.nd) (ok_I i F h5.2) (by rw [F.hN, F.sc]; exact blkOk_by h8.1) (fun s H C cs' fp => pg_of (cf_blk F h8.1 s H C cs' fp) h7.2)
          (fun s H C cs' fp => ok_Cs cs (cf_blk F h8.1 s H C cs' fp) h4.2 (of_decide_eq_true h3.2) h2.2) (fun s H C cs' fp => (ok_E el (cf_blk F h8.1 s H C cs' fp) h1.2).pe) (fold_plain h6.1)) fun σ H Q q => ?_) rfl
        rw [ownP_snd]
        refine lc_M (gOf_ok t) (fun j hj => ?_) q
        have hc := (List.all_eq_true.mp h8.2) j hj
        exact List.contains_iff_mem.mp hc
    | _ => cases h
  | .frz m, X, c, e, F, h => by
    refine ⟨PE.wk (ok_E m F (show okE c m e = true from h)).pe fun σ H Q q => frz_M q, fun t => by cases t⟩
  | .meth p o es, X, c, e, F, h => by
    cases e with
    | Call fn args kws cpos =>
      cases fn with
      | Attribute ob nm apos =>
        cases kws with
        | cons _ _ => cases h
        | nil =>
          have h1 := Bool.and_eq_true_iff.mp (show (((((((match mthN p with
            | some (n, _) => n == nm
            | none => false) || getOk p nm args.length) && baseE ob) && (apos.endLine == cpos.line)) && decide (args.length < 28)) && okE c o ob) && okEs c es args) = true from h)
          have h2 := Bool.and_eq_true_iff.mp h1.1
          have h3 := Bool.and_eq_true_iff.mp h2.1
          have h4 := Bool.and_eq_true_iff.mp h3.1
          have h5 := Bool.and_eq_true_iff.mp h4.1
          rcases Bool.or_eq_true_iff.mp h5.1 with h6 | h6
          case inr => exact .of (get_PE F h6 h5.2 h4.2 (ok_E o F h2.2).pe (ok_Es es F h1.2)) rfl
          cases hm : mthN p with
          | none => rw [hm] at h6; cases h6
          | some q =>
            obtain ⟨n, T⟩ := q
            rw [hm] at h6
            have en := eq_of_beq (show (n == nm) = true from h6)
            subst en
            exact .of (mth_PB hm h5.2 h4.2 (of_decide_eq_true h3.2) (ok_E o F h2.2).pe (ok_Es es F h1.2)) rfl
      | _ => cases h
    | _ => cases h
  | .junk, X, c, e, F, h => ⟨⟨fun pins s σ H Q I q => (junk_M q).elim⟩, fun _ => ⟨fun pins s σ H Q I q => (junk_B q).elim⟩⟩
  | .attr cx f o, X, c, e, F, h => by
    cases e with
    | Attribute ob nm pos =>
      have h1 := Bool.and_eq_true_iff.mp (show (attrOk c cx f nm && baseE ob && okE c o ob) = true from h)
      have h2 := Bool.and_eq_true_iff.mp h1.1
      exact .of (attr_PE F h2.1 h2.2 (ok_E o F h1.2).pe) rfl
    | _ => cases h
  | .make cx i es sel, X, c, e, F, h => by
    cases e with
    | Call fn args kws pos =>
      cases fn with
      | Name x p =>
        cases kws with
        | cons _ _ => cases h
        | nil =>
          have h1 := Bool.and_eq_true_iff.mp (show (makeOk c cx i sel x args.length && okEs c es args) = true from h)
          exact .of (make_PE F h1.1 (ok_Es es F h1.2)) rfl
      | _ => cases h
    | _ => cases h
  | .mcall cx m i o es sel, X, c, e, F, h => by
    cases e with
    | Call fn args kws pos =>
      cases fn with
      | Attribute ob nm apos =>
        cases kws with
        | cons _ _ => cases h
        | nil =>
          have h1 := Bool.and_eq_true_iff.mp (show (mcallOk c cx m i sel nm args.length && baseE ob && (apos.endLine == pos.line) && decide (args.length < 28) && okE c o ob && okEs c es args) = true from h)
          have h2 := Bool.and_eq_true_iff.mp h1.1
          have h3 := Bool.and_eq_true_iff.mp h2.1
          have h4 := Bool.and_eq_true_iff.mp h3.1
          have h5 := Bool.and_eq_true_iff.mp h4.1
          exact .of (mcall_PE F h5.1 h5.2 h4.2 (of_decide_eq_true h3.2) (ok_E o F h2.2).pe (ok_Es es F h1.2)) rfl
      | _ => cases h
    | _ => cases h
  | .comps d mm .last el v, X, c, e, F, h => by
    cases e with
    | ListComp elt gens scope pos => cases (lcs_parts h).2.1
    | DictComp kx vx gens scope pos => cases (dcs_parts h).2.1
    | _ => cases h
  | .comps d mm (.more t i cs r) el v, X, c, e, F, h => by
    cases e with
    | ListComp elt gens scope pos =>
      obtain ⟨rfl, _, hb, hg, he⟩ := lcs_parts h
      obtain ⟨gn, gs, rfl, h2, h3, h4, h5, h6, h7, h8⟩ := gens_nil hg
      have M : MadeOk X c cl t i cs r scope gn gs := ⟨okG_sync hg, h2, ok_I i F h4, by rw [F.hN, F.sc]; exact blkOk_by hb, fun s H C cs' fp => pg_of (cf_blk F hb s H C cs' fp) h3, fun s H C cs' fp => ok_Cs cs (cf_blk F hb s H C cs' fp) h5 h6 h7, fun s H C cs' fp => ok_G r (cf_blk F hb s H C cs' fp) h8⟩
      exact ⟨made_list F M fun s H C cs' fp => (ok_E el (cf_blk F hb s H C cs' fp) he).pe, fun t => by cases t⟩
    | DictComp kx vx gens scope pos =>
      obtain ⟨rfl, _, hb, hg, he, hv⟩ := dcs_parts h
      obtain ⟨gn, gs, rfl, h2, h3, h4, h5, h6, h7, h8⟩ := gens_nil hg
      have M : MadeOk X c cl t i cs r scope gn gs := ⟨okG_sync hg, h2, ok_I i F h4, by rw [F.hN, F.sc]; exact blkOk_by hb, fun s H C cs' fp => pg_of (cf_blk F hb s H C cs' fp) h3, fun s H C cs' fp => ok_Cs cs (cf_blk F hb s H C cs' fp) h5 h6 h7, fun s H C cs' fp => ok_G r (cf_blk F hb s H C cs' fp) h8⟩
      exact ⟨made_dict F M (fun s H C cs' fp => (ok_E el (cf_blk F hb s H C cs' fp) he).pe) fun s H C cs' fp => (ok_E v (cf_blk F hb s H C cs' fp) hv).pe, fun t => by cases t⟩
    | _ => cases h
theorem ok_G : ∀ (g : MG) {X : Cx} {c : Ck} {gens : List Comprehension}, CF X c k cl → okG c c g gens = true → ClsOk X cl g gens
  | .last, X, c, gens, F, h => by
    cases gens with
    | nil => exact trivial
    | cons _ _ => cases h
  | .more t i cs r, X, c, gens, F, h => by
    obtain ⟨gn, gs, rfl, h2, h3, h4, h5, h6, h7, h8⟩ := gens_nil h
    exact ⟨h2, ok_I i F h4, pg_of F h3, ok_Cs cs F h5 h6 h7, ok_G r F h8⟩
theorem ok_Es : ∀ (ms : List ME) {X : Cx} {c : Ck} {es : List Expr}, CF X c k cl → okEs c ms es = true → PEs X cl ms es
  | [], X, c, es, F, h => by
    cases es with
    | nil => exact .nil
    | cons _ _ => cases h
  | m :: ms, X, c, es, F, h => by
    cases es with
    | nil => cases h
    | cons e es =>
      have h' := Bool.and_eq_true_iff.mp (show (okE c m e && okEs c ms es) = true from h)
      exact .cons (ok_E m F h'.1).pe (okE_plain h'.1) (ok_Es ms F h'.2)
theorem ok_Cs : ∀ (ms : List ME) {X : Cx} {c : Ck} {es : List Expr}, CF X c k cl → okEs c ms es = true → es.length ≤ 1 → ms.all tst = true → PTs X es (tB X.K (evC cl ms))
  | [], X, c, es, F, h, _, _ => by
    cases es with
    | nil =>
      refine ⟨fun pins s σ H Q I q => pts_nil.run pins s σ H Q I ?_⟩
      obtain ⟨S, ls, hK, hH, g, l, p⟩ := q
      subst hH
      exact PostG.here p g rfl
    | cons _ _ => cases h
  | m :: ms, X, c, es, F, h, hl, ht => by
    cases es with
    | nil => cases h
    | cons e es =>
      cases es with
      | cons _ _ => exact absurd hl (by simp)
      | nil =>
        have h' := Bool.and_eq_true_iff.mp (show (okE c m e && okEs c ms []) = true from h)
        cases ms with
        | cons _ _ => cases h'.2
        | nil =>
          have t := (Bool.and_eq_true_iff.mp (show (tst m && [].all tst) = true from ht)).1
          have q := pts_one ((ok_E m F h'.1).pt t)
          rw [evC1]
          exact q
theorem ok_I : ∀ (i : MI) {X : Cx} {c : Ck} {tg e : Expr}, CF X c k cl → okI c tg i e = true → PI X tg e (tI X.K (evI cl i))
  | .val m, X, c, tg, e, F, h => pi_valM (ok_E m F (show okE c m e = true from h)).pe
  | .range es, X, c, tg, e, F, h => by
    cases e with
    | Call fn args kws pos =>
      cases fn with
      | Name x p =>
        cases kws with
        | cons _ _ => cases h
        | nil =>
          have h1 := Bool.and_eq_true_iff.mp (show ((((((x == ("range" : Str)) && inL x c.bl) && glB c.sc x) && decide (1 ≤ args.length)) && decide (args.length ≤ 3)) && okEs c es args) = true from h)
          have h2 := Bool.and_eq_true_iff.mp h1.1
          have h3 := Bool.and_eq_true_iff.mp h2.1
          have h4 := Bool.and_eq_true_iff.mp h3.1
          have h5 := Bool.and_eq_true_iff.mp h4.1
          have ex := eq_of_beq h5.1
          subst ex
          have hes := ok_Es es F h1.2
          exact pi_rng (glB_ok F h4.2) (F.bl _ (inL_ok h5.2)) hes.plain (of_decide_eq_true h3.2) (of_decide_eq_true h2.2) hes.pa (fun ls h h' vs e => by rw [evs_len e, hes.len])
      | _ => cases h
    | _ => cases h
  | .enum m, X, c, tg, e, F, h => by
    cases e with
    | Call fn args kws pos =>
      cases fn with
      | Name x p =>
        match args, kws, h with
        | [a], [], h =>
          have h1 := Bool.and_eq_true_iff.mp (show (((((x == ("enumerate" : Str)) && inL x c.bl) && glB c.sc x) && isTupE tg) && okE c m a) = true from h)
          have h2 := Bool.and_eq_true_iff.mp h1.1
          have h3 := Bool.and_eq_true_iff.mp h2.1
          have h4 := Bool.and_eq_true_iff.mp h3.1
          have ex := eq_of_beq h4.1
          subst ex
          have hm := (ok_E m F h1.2).pe
          have hp := okE_plain h1.2
          exact pi_enumM (glB_ok F h3.2) (F.bl _ (inL_ok h4.2)) h2.2 hp (PEs.cons hm hp .nil).pa (fun ls h => by rw [evs1])
        | [], _, h => cases h
        | _ :: _ :: _, _, h => cases h
        | [_], _ :: _, h => cases h
      | _ => cases h
    | _ => cases h
  | .zip m n, X, c, tg, e, F, h => by
    cases e with
    | Call fn args kws pos =>
      cases fn with
      | Name x p =>
        match args, kws, h with
        | [a, b], [], h =>
          have h1 := Bool.and_eq_true_iff.mp (show ((((((x == ("zip" : Str)) && inL x c.bl) && glB c.sc x) && isTupE tg) && okE c m a) && okE c n b) = true from h)
          have h2 := Bool.and_eq_true_iff.mp h1.1
          have h3 := Bool.and_eq_true_iff.mp h2.1
          have h4 := Bool.and_eq_true_iff.mp h3.1
          have h5 := Bool.and_eq_true_iff.mp h4.1
          have ex := eq_of_beq h5.1
          subst ex
          have hm := (ok_E m F h2.2).pe
          have hn := (ok_E n F h1.2).pe
          have hp := okE_plain h2.2
          have hp2 := okE_plain h1.2
          exact pi_zipM (glB_ok F h4.2) (F.bl _ (inL_ok h5.2)) h3.2 hp hp2 (PEs.cons hm hp (.cons hn hp2 .nil)).pa (fun ls h => by rw [evs2])
        | [], _, h => cases h
        | [_], _, h => cases h
        | _ :: _ :: _ :: _, _, h => cases h
        | [_, _], _ :: _, h => cases h
      | _ => cases h
    | _ => cases h
end
end M
namespace M
open PySem PySem.Spec PyProof.Rows L2
/-! ### the checker of statements -/
def isTupV : Expr → Bool
  | .Tuple .. => true
  | _ => false
def isComp : ME → Bool
  | .comp .. => true
  | .comps .. => true
  | _ => false
def localB (sc : Scope) (x : Str) : Bool := decide (sc.names.lookup x = some .local)
def notStar : Expr → Bool
  | .Starred .. => false
  | _ => true
/-- the stores of a written pair, triple go one by one -/
def parV (vs : List Expr) : Bool := vs.all notStar && !(vs.all (foldedForSure 8)) && !(vs.all (constantsAlone 8))
def okPar (c : Ck) (is : List Nat) (es : List ME) (tgs : List Expr) (e : Expr) : Bool := match is, es, tgs, e with
  | [i, j], [a, b], [.Tuple [.Name x px, .Name y py] _ _], .Tuple [ea, eb] _ _ => okTg c (.name i) (.Name x px) && okTg c (.name j) (.Name y py) && localB c.sc x && localB c.sc y && !(i == j) && !(x == y) && (py.line == px.line) && parV [ea, eb] && okEs c [a, b] [ea, eb]
  | [i, j, l], [a, b, d], [.Tuple [.Name x px, .Name y py, .Name z pz] _ _], .Tuple [ea, eb, ed] _ _ => okTg c (.name i) (.Name x px) && okTg c (.name j) (.Name y py) && okTg c (.name l) (.Name z pz) && localB c.sc x && localB c.sc y && localB c.sc z && !(i == j) && !(i == l) && !(j == l) && !(x == y) && !(x == z) && !(y == z) && (py.line == px.line) && (pz.line == px.line) && parV [ea, eb, ed] && okEs c [a, b, d] [ea, eb, ed]
  | _, _, _, _ => false
def okAsg2 (c : Ck) (i j : Nat) (m : ME) (tgs : List Expr) (e : Expr) : Bool := match tgs with
  | [tg, tg2] => okTg c (.name i) tg && okTg c (.name j) tg2 && okE c m e
  | _ => false
/-- a written tuple that goes to its targets as a tuple -/
def noSwap (c : Ck) : Expr → Expr → Bool
  | .Tuple ts _ _, .Tuple vs _ _ => !(ts.length == 2 || ts.length == 3) || vs.length != ts.length || ts.any fun t => match t with
    | .Name x _ => !(localB c.sc x)
    | _ => true
  | _, _ => false
mutual
def okS (c : Ck) : MS → Stmt → Bool
  | .asg [.name i] m, .Assign [tg] e _ => okTg c (.name i) tg && okE c m e && (!(compE e) || isComp m)
  | .asg [.tup is] m, .Assign [tg] e _ => okTg c (.tup is) tg && okE c m e && (!(isTupV e) || noSwap c tg e)
  | .asg [.ix a i] m, .Assign [.Subscript o j _] e _ => okE c a o && okE c i j && okE c m e
  | .asg [.dk a i] m, .Assign [.Subscript o j _] e _ => okE c a o && okE c i j && okE c m e
  | .asg [.at cx f o] m, .Assign [.Attribute ob nm _] e _ => attrOk c cx f nm && okE c o ob && okE c m e
  | .par is es, .Assign tgs e _ => okPar c is es tgs e
  | .asg2 i j m, .Assign tgs e _ => okAsg2 c i j m tgs e
  | .aug i p m, .AugAssign (.Name x _) op e _ => (binOf op == some p) && (p == .add || p == .sub) && okTg c (.name i) (.Name x ⟨0, 0, 0, 0⟩) && okE c m e
  | .expr m, .Expr e _ => okE c m e && !(compE e)
  | .ite t a b, .If e x y _ => okE c t e && tst t && okB c a x && okB c b y
  | .wh t b, .While e y [] _ => okE c t e && tst t && okB c b y
  | .for t i b, .For tg it y [] _ => okTg c t tg && plainE it && okI c tg i it && okB c b y
  | .ret m, .Return (some e) _ => okE c m e
  | .ret (.lit .none), .Return none _ => true
  | .brk, .Break _ => true
  | .junk, _ => true
  | .tryb b, .Try body (_ :: _) [] [] _ => okB c b body
  | _, _ => false
def okB (c : Ck) : List MS → List Stmt → Bool
  | .kill _ :: r, ss => okB c r ss
  | s :: r, st :: ss => okS c s st && okB c r ss
  | [], [] => true
  | _, _ => false
end
/-! ### op= -/
def ipA : TIp := fun x y H Q => (∃ i j, x = .int i ∧ y = .int j ∧ Q (.int (i + j)) H) ∨ ∃ i j, x = .str i ∧ y = .str j ∧ i.length + j.length ≤ sizeLine ∧ Q (.str (i ++ j)) H
section
variable {X : Cx} {c : Ck} {k : Nat} {cl : CallFn}
theorem ip_addA : PIp X .Add ipA := fun pins s σ H x y v u Q I rx ry h => h.elim (ip_add pins s σ H x y v u Q I rx ry) (iop_add_str pins s σ H x y v u Q I rx ry)
theorem aug_M {i : Nat} {p : P} {ti : TIp} {f : Loc → Heap → Res Val} {D : Ends} {σ : L2.St} {H : Hp} (hp : ∀ (S : RS) (v w : Val) (x y : V) (Q : VK), S.K = X.K → Good S → Rel S v x → Rel S w y → Post S (augV p v w S.h) Q → ti x y S.H Q)
    (q : tS X.K (fun ls h => match ls[i]? with
      | some (some x) => (f ls h).bind fun y h => (augV p x y h).bind fun v h => .ok (.nx (ls.set i (some v))) h
      | _ => .stuck) D σ H) : tAug i (tM X.K f) ti D σ H := by
  obtain ⟨S, ls, hK, hH, g, l, pp⟩ := q
  subst hH
  have pp : PF S (match ls[i]? with
    | some (some x) => (f ls S.h).bind fun y h => (augV p x y h).bind fun v h => .ok (.nx (ls.set i (some v))) h
    | _ => .stuck) D := pp
  cases e : ls[i]? with
  | none => rw [e] at pp; exact pp.elim
  | some o =>
    cases o with
    | none => rw [e] at pp; exact pp.elim
    | some v =>
      rw [e] at pp
      obtain ⟨x, hx, rx⟩ := l.at_ i v e
      refine ⟨x, hx, S, ls, hK, rfl, g, l, PF.bind (g := fun y h => (augV p v y h).bind fun v h => .ok (.nx (ls.set i (some v))) h) pp fun w y S2 g2 e2 r2 p2 => ?_⟩
      refine hp S2 v w x y _ (e2.K.trans hK) g2 (rx.ext e2) r2 ?_
      refine PF.bind p2 fun z zz S3 g3 e3 r3 p3 => ?_
      exact p3 S3 _ rfl g3 (e2.trans e3) (((l.ext e2).ext e3).set r3 i)
theorem aug_add (S : RS) (v w : Val) (x y : V) (Q : VK) (hK : S.K = X.K) (g : Good S) (rv : Rel S v x) (rw_ : Rel S w y) (p : Post S (augV .add v w S.h) Q) : ipA x y S.H Q := by
  cases v with
  | int i =>
    cases w with
    | int j => cases rv; cases rw_; exact .inl ⟨i, j, rfl, rfl, old_int g p⟩
    | _ => exact p.elim
  | str i =>
    cases w with
    | str j =>
      obtain ⟨rfl, a1⟩ := rv
      obtain ⟨rfl, a2⟩ := rw_
      obtain ⟨z, p⟩ := ite_of p
      refine .inr ⟨_, _, rfl, rfl, ?_, ?_⟩
      · rw [toS_len, toS_len, ← SL_eq, ← List.length_append]; exact z
      · rw [toS_app]; exact old_str g (asc_app a1 a2 z) p
    | _ => exact p.elim
  | _ => exact p.elim
theorem aug_sub (S : RS) (v w : Val) (x y : V) (Q : VK) (hK : S.K = X.K) (g : Good S) (rv : Rel S v x) (rw_ : Rel S w y) (p : Post S (augV .sub v w S.h) Q) : ipI (fun i j => i - j) x y S.H Q := by
  cases v with
  | int i =>
    cases w with
    | int j => cases rv; cases rw_; exact ⟨i, j, rfl, rfl, old_int g p⟩
    | _ => exact p.elim
  | _ => exact p.elim
/-- name = [..] on one line or not -/
theorem swap_comp (F : CF X c k cl) {e : Expr} {x : Str} {p : Pos} {l : Nat} {elt : Expr} {gens : List Comprehension} {scope : Scope} {pos : Pos} (he : e = .ListComp elt gens scope pos) :
    swapsWith e (some (.Name x p)) l X.env = pure (decide (c.sc.names.lookup x = some .local) && (p.line == pos.line) && !(scope.names.any fun (n, k) => n == x && (k == .local || k == .cell))) := by
  subst he
  have hb : X.env.blockKind = .function := by
    unfold Env.blockKind
    rw [F.sc, F.kind]
    rfl
  have hk : X.env.kindOf x = c.sc.names.lookup x := by
    unfold Env.kindOf
    rw [F.sc]
  show (pure (X.env.blockKind == .function && X.env.kindOf x == some .local && p.line == pos.line && !(scope.names.any fun (n, k) => n == x && (k == .local || k == .cell))) : Sem Bool) = _
  rw [hb, hk]
  by_cases h : c.sc.names.lookup x = some .local
  · rw [h]; rfl
  · have e1 : (c.sc.names.lookup x == some .local) = false := by
      cases q : c.sc.names.lookup x with
      | none => rfl
      | some y => cases y <;> first | rfl | exact absurd q h
    rw [e1, decide_eq_false h]
    rfl
theorem swap_compD (F : CF X c k cl) {e : Expr} {x : Str} {p : Pos} {l : Nat} {kx vx : Expr} {gens : List Comprehension} {scope : Scope} {pos : Pos} (he : e = .DictComp kx vx gens scope pos) :
    swapsWith e (some (.Name x p)) l X.env = pure (decide (c.sc.names.lookup x = some .local) && (p.line == pos.line) && !(scope.names.any fun (n, k) => n == x && (k == .local || k == .cell))) := by
  subst he
  have hb : X.env.blockKind = .function := by
    unfold Env.blockKind
    rw [F.sc, F.kind]
    rfl
  have hk : X.env.kindOf x = c.sc.names.lookup x := by
    unfold Env.kindOf
    rw [F.sc]
  show (pure (X.env.blockKind == .function && X.env.kindOf x == some .local && p.line == pos.line && !(scope.names.any fun (n, k) => n == x && (k == .local || k == .cell))) : Sem Bool) = _
  rw [hb, hk]
  by_cases h : c.sc.names.lookup x = some .local
  · rw [h]; rfl
  · have e1 : (c.sc.names.lookup x == some .local) = false := by
      cases q : c.sc.names.lookup x with
      | none => rfl
      | some y => cases y <;> first | rfl | exact absurd q h
    rw [e1, decide_eq_false h]
    rfl
/-- both, all three stores of a written pair, triple -/
theorem cf_kind (F : CF X c k cl) {x : Str} (hx : localB c.sc x = true) : X.env.kindOf x = some .local := by
  unfold Env.kindOf
  rw [F.sc]
  exact of_decide_eq_true hx
theorem cf_block (F : CF X c k cl) : X.env.blockKind = .function := by
  unfold Env.blockKind
  rw [F.sc, F.kind]
  rfl
theorem parV_parts {vs : List Expr} (hv : parV vs = true) : (∀ e ∈ vs, notStar e = true) ∧ vs.all (foldedForSure 8) = false ∧ vs.all (constantsAlone 8) = false := by
  unfold parV at hv
  simp only [Bool.and_eq_true, Bool.not_eq_true'] at hv
  exact ⟨List.all_eq_true.mp hv.1.1, hv.1.2, hv.2⟩
theorem dups2 {x y : Str} (h : (x == y) = false) : [x, y].eraseDups = [x, y] := by
  have h' : (y == x) = false := by rw [Bool.eq_false_iff] at *; exact fun z => h (by rw [eq_of_beq z]; exact beq_self_eq_true _)
  simp [List.eraseDups_cons, h, h']
theorem dups3 {x y z : Str} (h : (x == y) = false) (h2 : (x == z) = false) (h3 : (y == z) = false) : [x, y, z].eraseDups = [x, y, z] := by
  have sw : ∀ {x y : Str}, (x == y) = false → (y == x) = false := fun {x y} h => by rw [Bool.eq_false_iff] at *; exact fun z => h (by rw [eq_of_beq z]; exact beq_self_eq_true _)
  simp [List.eraseDups_cons, sw h, sw h2, sw h3]
theorem swapped_two (F : CF X c k cl) {x y : Str} {px py kp p2 : Pos} {kt k2 : Nat} {a b : Expr} (hx : localB c.sc x = true) (hy : localB c.sc y = true) (hxy : (x == y) = false) (hl : (py.line == px.line) = true) (hv : parV [a, b] = true) :
    swappedStores [.Tuple [.Name x px, .Name y py] kt kp] (.Tuple [a, b] k2 p2) X.env = pure (some [x, y]) := by
  obtain ⟨v1, v2, v3⟩ := parV_parts hv
  unfold swappedStores
  simp only [pure_bind, cf_block F, List.length_cons, List.length_nil]
  rw [if_neg (by decide)]
  rw [if_neg (by
    intro z
    obtain ⟨e, he, q⟩ := List.any_eq_true.mp z
    have := v1 e he
    cases e <;> first | (cases this; done) | (cases q; done))]
  simp only [List.filterMap_cons, List.filterMap_nil, List.head?_cons, Option.map_some, Option.getD_some, Expr.pos, cf_kind F hx, cf_kind F hy, beq_self_eq_true, hl, Bool.and_self, if_true, dups2 hxy, List.length_cons, List.length_nil]
  rw [if_neg (by decide), if_neg (by rw [v2]; decide), if_neg (by rw [v3]; decide)]
theorem swapped_three (F : CF X c k cl) {x y z : Str} {px py pz kp p2 : Pos} {kt k2 : Nat} {a b d : Expr} (hx : localB c.sc x = true) (hy : localB c.sc y = true) (hz : localB c.sc z = true) (hxy : (x == y) = false) (hxz : (x == z) = false) (hyz : (y == z) = false)
    (hl : (py.line == px.line) = true) (hl2 : (pz.line == px.line) = true) (hv : parV [a, b, d] = true) :
    swappedStores [.Tuple [.Name x px, .Name y py, .Name z pz] kt kp] (.Tuple [a, b, d] k2 p2) X.env = pure (some [x, y, z]) := by
  obtain ⟨v1, v2, v3⟩ := parV_parts hv
  unfold swappedStores
  simp only [pure_bind, cf_block F, List.length_cons, List.length_nil]
  rw [if_neg (by decide)]
  rw [if_neg (by
    intro z
    obtain ⟨e, he, q⟩ := List.any_eq_true.mp z
    have := v1 e he
    cases e <;> first | (cases this; done) | (cases q; done))]
  simp only [List.filterMap_cons, List.filterMap_nil, List.head?_cons, Option.map_some, Option.getD_some, Expr.pos, cf_kind F hx, cf_kind F hy, cf_kind F hz, beq_self_eq_true, hl, hl2, Bool.and_self, if_true, dups3 hxy hxz hyz, List.length_cons, List.length_nil]
  rw [if_neg (by decide), if_neg (by rw [v2]; decide), if_neg (by rw [v3]; decide)]
theorem no_swap (F : CF X c k cl) {tg e : Expr} (h : noSwap c tg e = true) : swappedStores [tg] e X.env = pure none := by
  cases tg with
  | Tuple ts kt pt =>
    cases e with
    | Tuple vs kv pv =>
      have h : (!(ts.length == 2 || ts.length == 3) || vs.length != ts.length || ts.any fun t => match t with
        | .Name x _ => !(localB c.sc x)
        | _ => true) = true := h
      unfold swappedStores
      simp only [pure_bind]
      cases h1 : (!(ts.length == 2 || ts.length == 3) || vs.length != ts.length || X.env.blockKind != .function) with
      | true => rfl
      | false =>
        rw [if_neg (by simp)]
        split
        · rfl
        · have h2 : (!(ts.length == 2 || ts.length == 3) || vs.length != ts.length) = false := by
            simp only [Bool.or_eq_false_iff] at h1 ⊢
            exact h1.1
          rw [h2, Bool.false_or] at h
          rw [if_pos]
          rw [Bool.or_eq_true]
          left
          rw [bne_iff_ne]
          intro hl
          obtain ⟨t, ht, q⟩ := List.any_eq_true.mp h
          have key : ∀ {f : Expr → Option Str} {l : List Expr}, (l.filterMap f).length = l.length → ∀ t ∈ l, (f t).isSome = true := fun {f l} => by
            induction l with
            | nil => intro _ t ht; cases ht
            | cons a r ih =>
              intro hl t ht
              rw [List.filterMap_cons] at hl
              cases e : f a with
              | none =>
                rw [e] at hl
                have := List.length_filterMap_le f r
                simp only [List.length_cons] at hl
                omega
              | some b =>
                rw [e] at hl
                rcases List.mem_cons.mp ht with rfl | ht
                · rw [e]; rfl
                · exact ih (by simpa using hl) t ht
          have z := key hl t ht
          cases t with
          | Name x p =>
            have q : localB c.sc x = false := by simpa using q
            have nk : ¬ (X.env.kindOf x = some NameKind.local) := by
              unfold Env.kindOf
              rw [F.sc]
              unfold localB at q
              exact of_decide_eq_false q
            have nk2 : (X.env.kindOf x == some NameKind.local) = false := by
              rw [Bool.eq_false_iff]
              intro w
              exact nk (by simpa using w)
            simp [nk2] at z
          | _ => simp at z
    | _ => cases h
  | _ => cases h
end
end M
namespace M
open PySem PySem.Spec PyProof.Rows L2
section
variable {X : Cx} {c : Ck} {k : Nat} {cl : CallFn}
theorem asg_name (i : Nat) (m : ME) : evS cl (.asg [.name i] m) = fun ls h => (evE cl m ls h).bind fun v h => (match setTg (.name i) v ls with
    | some ls => .ok (.nx ls) h
    | none => .stuck : Res M.Flow) := rfl
theorem asg_tup (is : List Nat) (m : ME) : evS cl (.asg [.tup is] m) = fun ls h => (evE cl m ls h).bind fun v h => (match setTg (.tup is) v ls with
    | some ls => .ok (.nx ls) h
    | none => .stuck : Res M.Flow) := by
  funext ls h
  show (evE cl m ls h).bind _ = _
  cases evE cl m ls h with
  | ok v h1 =>
    simp only [bind_ok]
    show ((match setTg (.tup is) v ls with
      | some ls => .ok ls h1
      | none => .stuck : Res Loc).bind fun ls h => stoTgs cl v [] ls h).bind _ = _
    cases setTg (.tup is) v ls <;> rfl
  | exc _ _ => rfl
  | stuck => rfl
theorem asg_ix (a i m : ME) : evS cl (.asg [.ix a i] m) = fun ls h => (evE cl m ls h).bind fun v h => (evE cl a ls h).bind fun x h => (evE cl i ls h).bind fun y h => ref1S x h fun n => int1S y fun j => lst1S h n fun xs => (match ixN xs.length j with
    | some k => .ok (.nx ls) (h.set n (.list (xs.set k v)))
    | none => .stuck : Res M.Flow) := by
  funext ls h
  show (evE cl m ls h).bind _ = _
  cases evE cl m ls h with
  | ok v h1 =>
    simp only [bind_ok]
    show (((evE cl a ls h1).bind fun x h => (evE cl i ls h).bind fun y h => ref1S x h fun n => int1S y fun j => lst1S h n fun xs => (match ixN xs.length j with
      | some k => .ok ls (h.set n (.list (xs.set k v)))
      | none => .stuck : Res Loc)).bind fun ls h => stoTgs cl v [] ls h).bind _ = _
    cases evE cl a ls h1 with
    | ok x h2 =>
      simp only [bind_ok]
      cases evE cl i ls h2 with
      | ok y h3 =>
        simp only [bind_ok]
        cases x with
        | ref n =>
          cases y with
          | int j =>
            unfold ref1S int1S lst1S
            simp only
            cases h3[n]? with
            | none => rfl
            | some o =>
              cases o with
              | list xs => simp only; cases ixN xs.length j <;> rfl
              | _ => rfl
          | _ => rfl
        | _ => rfl
      | exc _ _ => rfl
      | stuck => rfl
    | exc _ _ => rfl
    | stuck => rfl
  | exc _ _ => rfl
  | stuck => rfl
theorem evB_cons (s : MS) (r : List MS) : evB cl (s :: r) = fun ls h => (evS cl s ls h).bind fun f h => seqF f h (evB cl r) := by
  funext ls h
  show (evS cl s ls h).bind _ = _
  cases evS cl s ls h with
  | ok f h1 => cases f <;> rfl
  | exc _ _ => rfl
  | stuck => rfl
/-- a comprehension's parts -/
theorem comp_parts (F : CF X c k cl) {m : Bool} {own : List Nat} {t : Tg} {i : MI} {cs : List ME} {el : ME} {elt : Expr} {gens : List Comprehension} {scope : Scope} {pos : Pos} (h : okE c (.comp m own t i cs el) (.ListComp elt gens scope pos) = true) :
    ∃ tg iter ifs, gens = [⟨tg, iter, ifs, 0⟩] ∧ plainE iter = true ∧ PI X tg iter (tI X.K (evI cl i)) ∧ BlkOk X.N X.env.scope scope (ownP c own) ∧
      (∀ (s : Shared) (H : Hp) (C : Addr) (cs' : List (Str × Addr)) (fp : List Addr), PG (X.blk s H scope (compEnvC scope cs' C X.env) fp) tg (gOf X.K t)) ∧
      (∀ (s : Shared) (H : Hp) (C : Addr) (cs' : List (Str × Addr)) (fp : List Addr), PTs (X.blk s H scope (compEnvC scope cs' C X.env) fp) ifs (tB X.K (evC cl cs))) ∧
      (∀ (s : Shared) (H : Hp) (C : Addr) (cs' : List (Str × Addr)) (fp : List Addr), PE (X.blk s H scope (compEnvC scope cs' C X.env) fp) elt (tM X.K (evE cl el))) ∧ ∀ j ∈ t.slots, j ∈ own := by
  have h : (match gen1 gens with
    | some (tg, iter, ifs) => plainE iter && compOk c own t scope tg && okI c tg i iter && okEs (ckB c scope own) cs ifs && decide (ifs.length ≤ 1) && (cs.all tst) && okE (ckB c scope own) el elt
    | none => false) = true := h
  cases hg : gen1 gens with
  | none => rw [hg] at h; cases h
  | some q =>
    obtain ⟨tg, iter, ifs⟩ := q
    rw [hg] at h
    have h1 := Bool.and_eq_true_iff.mp (show ((((((plainE iter && compOk c own t scope tg) && okI c tg i iter) && okEs (ckB c scope own) cs ifs) && decide (ifs.length ≤ 1)) && (cs.all tst)) && okE (ckB c scope own) el elt) = true from h)
    have h2 := Bool.and_eq_true_iff.mp h1.1
    have h3 := Bool.and_eq_true_iff.mp h2.1
    have h4 := Bool.and_eq_true_iff.mp h3.1
    have h5 := Bool.and_eq_true_iff.mp h4.1
    have h6 := Bool.and_eq_true_iff.mp h5.1
    have h7 := Bool.and_eq_true_iff.mp (show ((blkC c.N c.sc scope (ownP c own) && (t.slots.all fun i => own.contains i)) && okTg (ckB c scope own) t tg) = true from h6.2)
    have h8 := Bool.and_eq_true_iff.mp h7.1
    exact ⟨tg, iter, ifs, gen1_ok hg, h6.1, ok_I i F h5.2, by rw [F.hN, F.sc]; exact blkOk_by h8.1, fun s H C cs' fp => pg_of (cf_blk F h8.1 s H C cs' fp) h7.2,
      fun s H C cs' fp => ok_Cs cs (cf_blk F h8.1 s H C cs' fp) h4.2 (of_decide_eq_true h3.2) h2.2, fun s H C cs' fp => (ok_E el (cf_blk F h8.1 s H C cs' fp) h1.2).pe,
      fun j hj => List.contains_iff_mem.mp ((List.all_eq_true.mp h8.2) j hj)⟩
/-- as before, of many clauses -/
theorem gens_parts (F : CF X c k cl) {t : Tg} {i : MI} {cs : List ME} {r : MG} {gens : List Comprehension} {scope : Scope} (hb : blkC c.N c.sc scope (ownP c (t.slots ++ r.slots)) = true) (hg : okG c (ckB c scope (t.slots ++ r.slots)) (.more t i cs r) gens = true) : ∃ gn gs, gens = gn :: gs ∧ MadeOk X c cl t i cs r scope gn gs := by
  obtain ⟨gn, gs, rfl, h2, h3, h4, h5, h6, h7, h8⟩ := gens_nil hg
  exact ⟨gn, gs, rfl, okG_sync hg, h2, ok_I i F h4, by rw [F.hN, F.sc]; exact blkOk_by hb, fun s H C cs' fp => pg_of (cf_blk F hb s H C cs' fp) h3, fun s H C cs' fp => ok_Cs cs (cf_blk F hb s H C cs' fp) h5 h6 h7, fun s H C cs' fp => ok_G r (cf_blk F hb s H C cs' fp) h8⟩
theorem setL_made (F : CF X c k cl) {t : Tg} {i : MI} {cs : List ME} {r : MG} {scope : Scope} {gn : Comprehension} {gs : List Comprehension} (M : MadeOk X c cl t i cs r scope gn gs) {elt : Expr} {pos spos py : Pos} {el v : ME} {m : Bool} {j : Nat} {y : Str} (he : ∀ s H C cs' fp, PE (blkX X s H scope C cs' fp) elt (tM X.K (evE cl el)))
    (hy : X.N[j]? = some y) (hyl : X.env.scope.names.lookup y = some .local) (hsw : swapsWith (.ListComp elt (gn :: gs) scope pos) (some (.Name y py)) spos.line X.env = pure true) :
    PS X (.Assign [.Name y py] (.ListComp elt (gn :: gs) scope pos) spos) (tS X.K (evS cl (.asg [.name j] (.comps false m (.more t i cs r) el v)))) := by
  have hN : X.N.Nodup := by rw [F.hN]; exact F.nd
  have lp := fun (pos : Pos) => list_parts (pos := pos) F M he
  obtain ⟨tg, it0, ifs, z⟩ := gn
  have z0 : z = 0 := M.sync _ List.mem_cons_self
  subst z0
  refine PS.wk (ps_setMade (o0 := .lst []) (c := claOf X.K cl t i cs r) (newAcc := newList []) (deed := fun D => tCls (deedL (tM X.K (evE cl el)) D) (clasG X.K cl r)) (m := fun acc env => match gs[0]? with
      | some g' => startM (.ListComp elt (⟨tg, it0, ifs, 0⟩ :: gs) scope pos) 1 g'.iter acc env
      | none => emitL elt acc env) noGen_list hy hyl hsw (fun use => rfl) rfl new_list F.calm hN M.pi M.blk (ownP_snd' ..).symm (fold_plain M.plain)
      (fun it acc env => turn_list rfl (M.sync _ List.mem_cons_self) fun g' hg' => M.sync _ (List.mem_of_getElem? hg')) (lp pos)) fun D σ H q => ?_
  rw [asg_name] at q
  have q2 : tAsg (tM X.K (evE cl (.comps false m (.more t i cs r) el v))) (gName j) D σ H := tAsg_M gok_name q
  exact madeL_M q2
theorem setD_made (F : CF X c k cl) {t : Tg} {i : MI} {cs : List ME} {r : MG} {scope : Scope} {gn : Comprehension} {gs : List Comprehension} (M : MadeOk X c cl t i cs r scope gn gs) {kx vx : Expr} {pos spos py : Pos} {el v : ME} {m : Bool} {j : Nat} {y : Str} (he : ∀ s H C cs' fp, PE (blkX X s H scope C cs' fp) kx (tM X.K (evE cl el))) (hv : ∀ s H C cs' fp, PE (blkX X s H scope C cs' fp) vx (tM X.K (evE cl v)))
    (hy : X.N[j]? = some y) (hyl : X.env.scope.names.lookup y = some .local) (hsw : swapsWith (.DictComp kx vx (gn :: gs) scope pos) (some (.Name y py)) spos.line X.env = pure true) :
    PS X (.Assign [.Name y py] (.DictComp kx vx (gn :: gs) scope pos) spos) (tS X.K (evS cl (.asg [.name j] (.comps true m (.more t i cs r) el v)))) := by
  have hN : X.N.Nodup := by rw [F.hN]; exact F.nd
  have lp := fun (pos : Pos) => dict_parts (pos := pos) F M he hv
  obtain ⟨tg, it0, ifs, z⟩ := gn
  have z0 : z = 0 := M.sync _ List.mem_cons_self
  subst z0
  refine PS.wk (ps_setMade (o0 := .dK []) (c := claOf X.K cl t i cs r) (newAcc := newDict) (deed := fun D => tCls (deedD (tM X.K (evE cl el)) (tM X.K (evE cl v)) D) (clasG X.K cl r)) (m := fun acc env => match gs[0]? with
      | some g' => startM (.DictComp kx vx (⟨tg, it0, ifs, 0⟩ :: gs) scope pos) 1 g'.iter acc env
      | none => emitD kx vx acc env) noGen_dict hy hyl hsw (fun use => rfl) rfl new_dict F.calm hN M.pi M.blk (ownP_snd' ..).symm (fold_plain M.plain)
      (fun it acc env => turn_dict rfl (M.sync _ List.mem_cons_self) fun g' hg' => M.sync _ (List.mem_of_getElem? hg')) (lp pos)) fun D σ H q => ?_
  rw [asg_name] at q
  have q2 : tAsg (tM X.K (evE cl (.comps true m (.more t i cs r) el v))) (gName j) D σ H := tAsg_M gok_name q
  exact madeD_M q2
theorem set_ok (F : CF X c k cl) {i : Nat} {m : ME} {tg e : Expr} {pos : Pos} (ht : okTg c (.name i) tg = true) (he : okE c m e = true) (hc : (!(compE e) || isComp m) = true) : PS X (.Assign [tg] e pos) (tS X.K (evS cl (.asg [.name i] m))) := by
  cases tg with
  | Name x p =>
    have h' := Bool.and_eq_true_iff.mp (show (_ && inL x c.st) = true from ht)
    obtain ⟨l1, l2⟩ := F.st x (inL_ok h'.2)
    have hN : X.N.Nodup := by rw [F.hN]; exact F.nd
    have hi : X.N[i]? = some x := by rw [F.hN]; exact nm_at h'.1
    by_cases hce : compE e = true
    · rw [hce] at hc
      cases m with
      | comp mb own t it cs el =>
        cases e with
        | ListComp elt gens scope p2 =>
          have hsw := swap_comp F (x := x) (p := p) (l := pos.line) (e := .ListComp elt gens scope p2) rfl
          obtain ⟨tg, iter, ifs, rfl, hp, hI, ok, hg, hts, hel, hs⟩ := comp_parts F he
          cases hb : (decide (c.sc.names.lookup x = some .local) && (p.line == p2.line) && !(scope.names.any fun (n, k) => n == x && (k == .local || k == .cell))) with
          | true =>
            rw [hb] at hsw
            have hl : X.env.scope.names.lookup x = some .local := by
              rw [F.sc]
              exact of_decide_eq_true (Bool.and_eq_true_iff.mp (Bool.and_eq_true_iff.mp hb).1).1
            refine PS.wk (ps_setLc F.calm hN hi hl hsw hI ok hg hts hel (fold_plain hp)) fun D σ H q => ?_
            rw [asg_name] at q
            have q2 : tAsg (tM X.K (evE cl (.comp mb own t it cs el))) (gName i) D σ H := tAsg_M gok_name q
            show tLc _ _ _ _ ((ownP c own).map (·.2)) σ H _
            rw [ownP_snd]
            exact lc_M (gOf_ok t) hs q2
          | false =>
            rw [hb] at hsw
            refine PS.wk (ps_set hN hi l1 (ok_E _ F he).pe hsw l2) fun D σ H q => ?_
            rw [asg_name] at q
            exact tAsg_M gok_name q
        | _ => cases he
      | comps d mb g el v =>
        have pl : ∀ {b : Bool}, swapsWith e (some (.Name x p)) pos.line X.env = pure b → b = false → PS X (.Assign [.Name x p] e pos) (tS X.K (evS cl (.asg [.name i] (.comps d mb g el v)))) := fun {b} hsw hb => by
          refine PS.wk (ps_set hN hi l1 (ok_E _ F he).pe (by rw [hsw, hb]) l2) fun D σ H q => ?_
          rw [asg_name] at q
          exact tAsg_M gok_name q
        have loc : ∀ {a b : Bool}, (decide (c.sc.names.lookup x = some .local) && a && b) = true → X.env.scope.names.lookup x = some .local := fun h => by
          rw [F.sc]
          exact of_decide_eq_true (Bool.and_eq_true_iff.mp (Bool.and_eq_true_iff.mp h).1).1
        cases e with
        | ListComp elt gens scope p2 =>
          have hsw := swap_comp F (x := x) (p := p) (l := pos.line) (e := .ListComp elt gens scope p2) rfl
          cases hb : (decide (c.sc.names.lookup x = some .local) && (p.line == p2.line) && !(scope.names.any fun (n, k) => n == x && (k == .local || k == .cell))) with
          | false => exact pl hsw hb
          | true =>
            rw [hb] at hsw
            obtain ⟨rfl, hm, hbk, hg, hel⟩ := lcs_parts he
            cases g with
            | last => cases hm
            | more t it cs r =>
              obtain ⟨gn, gs, rfl, M⟩ := gens_parts F hbk hg
              exact setL_made F M (fun s H C cs' fp => (ok_E el (cf_blk F hbk s H C cs' fp) hel).pe) hi (loc hb) hsw
        | DictComp kx vx gens scope p2 =>
          have hsw := swap_compD F (x := x) (p := p) (l := pos.line) (e := .DictComp kx vx gens scope p2) rfl
          cases hb : (decide (c.sc.names.lookup x = some .local) && (p.line == p2.line) && !(scope.names.any fun (n, k) => n == x && (k == .local || k == .cell))) with
          | false => exact pl hsw hb
          | true =>
            rw [hb] at hsw
            obtain ⟨rfl, hm, hbk, hg, hel, hvl⟩ := dcs_parts he
            cases g with
            | last => cases hm
            | more t it cs r =>
              obtain ⟨gn, gs, rfl, M⟩ := gens_parts F hbk hg
              exact setD_made F M (fun s H C cs' fp => (ok_E el (cf_blk F hbk s H C cs' fp) hel).pe) (fun s H C cs' fp => (ok_E v (cf_blk F hbk s H C cs' fp) hvl).pe) hi (loc hb) hsw
        | _ => cases he
      | _ => cases hc
    · refine PS.wk (ps_set hN hi l1 (ok_E m F he).pe (swap_plain (by simpa using hce)) l2) fun D σ H q => ?_
      rw [asg_name] at q
      exact tAsg_M gok_name q
  | _ => cases ht
theorem setT_ok (F : CF X c k cl) {is : List Nat} {m : ME} {tg e : Expr} {pos : Pos} (ht : okTg c (.tup is) tg = true) (he : okE c m e = true) (hc : (!(isTupV e) || noSwap c tg e) = true) : PS X (.Assign [tg] e pos) (tS X.K (evS cl (.asg [.tup is] m))) := by
  have hg := pg_of F ht
  cases tg with
  | Tuple es n p =>
    refine PS.wk (ps_asg (ok_E m F he).pe hg ?_ ?_ rfl) fun D σ H q => ?_
    · show swapsWith e (some (.Tuple es n p)) pos.line X.env = pure false
      cases e <;> rfl
    · rcases Bool.or_eq_true_iff.mp hc with hc | hc
      · cases e <;> first | rfl | cases hc
      · exact no_swap F hc
    · rw [asg_tup] at q
      exact tAsg_M (gOf_ok (.tup is)) q
  | _ => cases ht
theorem setI_ok (F : CF X c k cl) {a i m : ME} {o j e : Expr} {p pos : Pos} (ha : okE c a o = true) (hi : okE c i j = true) (he : okE c m e = true) : PS X (.Assign [.Subscript o j p] e pos) (tS X.K (evS cl (.asg [.ix a i] m))) := by
  have hj := okE_plain hi
  have hg : PG X (.Subscript o j p) (gSub (tM X.K (evE cl a)) (tM X.K (evE cl i)) rSetL) := pg_sub (ok_E a F ha).pe (ok_E i F hi).pe set_list (fun v => by cases j <;> first | rfl | cases hj)
  refine PS.wk (ps_asg (ok_E m F he).pe hg ?_ ?_ rfl) fun D σ H q => ?_
  · show swapsWith e (some (.Subscript o j p)) pos.line X.env = pure false
    cases e <;> rfl
  · cases e <;> rfl
  · rw [asg_ix] at q
    exact tSub_M q
theorem asg_dk (a i m : ME) : evS cl (.asg [.dk a i] m) = fun ls h => (evE cl m ls h).bind fun v h => (evE cl a ls h).bind fun x h => (evE cl i ls h).bind fun q h => ref1S x h fun n => dct1S h n fun ks vs => (if okKey q && decide (ks.length < SL) then .ok (.nx ls) (h.set n (.dict (putKs ks q) (putVs ks vs q v))) else .stuck : Res M.Flow) := by
  funext ls h
  show (evE cl m ls h).bind _ = _
  cases evE cl m ls h with
  | ok v h1 =>
    simp only [bind_ok]
    show (((evE cl a ls h1).bind fun x h => (evE cl i ls h).bind fun q h => ref1S x h fun n => dct1S h n fun ks vs => (if okKey q && decide (ks.length < SL) then .ok ls (h.set n (.dict (putKs ks q) (putVs ks vs q v))) else .stuck : Res Loc)).bind fun ls h => stoTgs cl v [] ls h).bind _ = _
    cases evE cl a ls h1 with
    | ok x h2 =>
      simp only [bind_ok]
      cases evE cl i ls h2 with
      | ok y h3 =>
        simp only [bind_ok]
        cases x with
        | ref n =>
          unfold ref1S dct1S
          simp only
          cases h3[n]? with
          | none => rfl
          | some o =>
            cases o with
            | dict ks vs => simp only; split <;> rfl
            | _ => rfl
        | _ => rfl
      | exc _ _ => rfl
      | stuck => rfl
    | exc _ _ => rfl
    | stuck => rfl
  | exc _ _ => rfl
  | stuck => rfl
theorem ref_dct {S : RS} {n : Nat} {x : V} {ks vs : List Val} (g : Good S) (r : Rel S (.ref n) x) (e : S.h[n]? = some (.dict ks vs)) : ∃ a kvs, x = .ref a ∧ S.r[n]? = some a ∧ S.H a = some (.dK kvs) ∧ Rels S ks (kvs.map fun p => kV p.1) ∧ Rels S vs (kvs.map Prod.snd) := by
  obtain ⟨a, h1, rfl⟩ := r
  obtain ⟨kvs, h2, h3, h4⟩ := g.obj n _ a e h1
  exact ⟨a, kvs, rfl, h1, h2, h3, h4⟩
theorem tDPut_M {f fo fi : Loc → Heap → Res Val} {D : Ends} {σ : L2.St} {H : Hp} (q : tS X.K (fun ls h => (f ls h).bind fun v h => (fo ls h).bind fun x h => (fi ls h).bind fun q h => ref1S x h fun n => dct1S h n fun ks vs => (if okKey q && decide (ks.length < SL) then .ok (.nx ls) (h.set n (.dict (putKs ks q) (putVs ks vs q v))) else .stuck : Res M.Flow)) D σ H) :
    sDPut (tM X.K fo) (tM X.K fi) (tM X.K f) D σ H := by
  refine tS_bind (g := fun ls v h => (fo ls h).bind fun x h => (fi ls h).bind fun q h => ref1S x h fun n => dct1S h n fun ks vs => (if okKey q && decide (ks.length < SL) then .ok (.nx ls) (h.set n (.dict (putKs ks q) (putVs ks vs q v))) else .stuck : Res M.Flow)) q fun v x S ls hK g l rv p => ?_
  refine ⟨S, ls, hK, rfl, g, l, PF.bind p fun o ov S2 g2 e2 ro p2 => ?_⟩
  refine ⟨S2, ls, e2.K.trans hK, rfl, g2, l.ext e2, PF.bind p2 fun i iv S3 g3 e3 ri p3 => ?_⟩
  cases o with
  | ref n =>
    unfold ref1S dct1S at p3
    simp only at p3
    cases e5 : S3.h[n]? with
    | none => rw [e5] at p3; exact p3.elim
    | some ob =>
      rw [e5] at p3
      cases ob with
      | dict ks vs =>
        simp only at p3
        split at p3
        · rename_i c
          rw [Bool.and_eq_true, decide_eq_true_eq] at c
          obtain ⟨b, rfl⟩ := key_of c.1 ri
          obtain ⟨a, kvs, rfl, ha, hH, r1, r2⟩ := ref_dct g3 (ro.ext e3) e5
          have rv3 := (rv.ext e2).ext e3
          have rz := put_rel c.1 ri rv3 r1 r2
          have ex : Ext S3 (S3.mut n a (.dK (putK kvs b x)) (.dict (putKs ks i) (putVs ks vs i v))) := ext_mut g3 ha e5 (fun z => nomatch z)
          have hl : kvs.length < sizeLine := by
            have e := r1.len
            rw [List.length_map] at e
            rw [← e, ← SL_eq]; exact c.2
          refine ⟨a, _, rfl, .k hH hl, ?_⟩
          exact p3 (S3.mut n a (.dK (putK kvs b x)) (.dict (putKs ks i) (putVs ks vs i v))) σ rfl (good_mut g3 ha e5 (fun z => nomatch z) ⟨_, upd_same, rz.1.ext ex, rz.2.ext ex⟩) ((e2.trans e3).trans ex) (((l.ext e2).ext e3).ext ex)
        · exact p3.elim
      | _ => exact p3.elim
  | _ => exact p3.elim
theorem setD_ok (F : CF X c k cl) {a i m : ME} {o j e : Expr} {p pos : Pos} (ha : okE c a o = true) (hi : okE c i j = true) (he : okE c m e = true) : PS X (.Assign [.Subscript o j p] e pos) (tS X.K (evS cl (.asg [.dk a i] m))) := by
  refine PS.wk (ps_dput (by have := F.units; omega) (ok_E a F ha).pe (ok_E i F hi).pe (ok_E m F he).pe ?_) fun D σ H q => ?_
  · show swapsWith e (some (.Subscript o j p)) pos.line X.env = pure false
    cases e <;> rfl
  · rw [asg_dk] at q
    exact tDPut_M q
theorem asg_at (cx f : T) (o m : ME) : evS cl (.asg [.at cx f o] m) = fun ls h => (evE cl m ls h).bind fun v h => (evE cl o ls h).bind fun x h => ref1S x h fun n => ins1S h n fun c' ns vs => (if c' = cx ∧ ns.length < 500 then .ok (.nx ls) (h.set n (.inst cx (putFN ns f) (putFV ns vs f v))) else .stuck : Res M.Flow) := by
  funext ls h
  show (evE cl m ls h).bind _ = _
  cases evE cl m ls h with
  | ok v h1 =>
    simp only [bind_ok]
    show (((evE cl o ls h1).bind fun x h => ref1S x h fun n => ins1S h n fun c' ns vs => (if c' = cx ∧ ns.length < 500 then .ok ls (h.set n (.inst cx (putFN ns f) (putFV ns vs f v))) else .stuck : Res Loc)).bind fun ls h => stoTgs cl v [] ls h).bind _ = _
    cases evE cl o ls h1 with
    | ok x h2 =>
      simp only [bind_ok]
      cases x with
      | ref n =>
        unfold ref1S ins1S
        simp only
        cases h2[n]? with
        | none => rfl
        | some o =>
          cases o with
          | inst c' ns vs =>
            simp only
            split <;> rfl
          | _ => rfl
      | _ => rfl
    | exc _ _ => rfl
    | stuck => rfl
  | exc _ _ => rfl
  | stuck => rfl
theorem setF_ok (F : CF X c k cl) {cx f : T} {nm : Str} {o m : ME} {ob e : Expr} {p pos : Pos} (h : attrOk c cx f nm = true) (ho : okE c o ob = true) (he : okE c m e = true) : PS X (.Assign [.Attribute ob nm p] e pos) (tS X.K (evS cl (.asg [.at cx f o] m))) := by
  unfold attrOk at h
  obtain ⟨h1, h2⟩ := Bool.and_eq_true_iff.mp h
  obtain ⟨ce, h3, h4⟩ := List.any_eq_true.mp h2
  obtain ⟨h5, h6⟩ := Bool.and_eq_true_iff.mp h4
  have en := eq_of_beq h1
  subst en
  refine PS.wk (ps_fld (ok_E o F ho).pe (ok_E m F he).pe ?_) fun D σ H q => ?_
  · show swapsWith e (some (.Attribute ob (toS f) p)) pos.line X.env = pure false
    cases e <;> rfl
  · rw [asg_at] at q
    exact tFldS_M F h3 (eq_of_beq h5) (inL_ok h6) q
theorem nm_facts (F : CF X c k cl) {i : Nat} {x : Str} {p : Pos} (ht : okTg c (.name i) (.Name x p) = true) : X.N[i]? = some x ∧ L2.Loc X.env.scope x ∧ (X.fn x = true ∨ X.env.scope.names.lookup x = some .local) := by
  have h' := Bool.and_eq_true_iff.mp (show (_ && inL x c.st) = true from ht)
  obtain ⟨l1, l2⟩ := F.st x (inL_ok h'.2)
  exact ⟨by rw [F.hN]; exact nm_at h'.1, l1, l2⟩
theorem local_facts (F : CF X c k cl) {x : Str} (h : localB c.sc x = true) : X.env.scope.names.lookup x = some .local := by
  rw [F.sc]; exact of_decide_eq_true h
theorem tPar_M {i j : Nat} {fs : Loc → Heap → Res (List Val)} {D : Ends} {σ : L2.St} {H : Hp} (q : tS X.K (fun ls h => (fs ls h).bind fun vs h => (match setsTg [i, j] vs ls with
    | some ls => .ok (.nx ls) h
    | none => .stuck : Res M.Flow)) D σ H) : tPar i j (tAs X.K fs) D σ H :=
  tS_bind (g := fun ls vs h => (match setsTg [i, j] vs ls with
    | some ls => .ok (.nx ls) h
    | none => .stuck : Res M.Flow)) q fun vs xs S ls hK g l r p => by
    match vs, r, p with
    | [v, w], r, p =>
      obtain ⟨x, t, rfl, r1, y, u, rfl, r2, rfl⟩ := r
      exact ⟨x, y, rfl, p S _ rfl g .refl ((l.set r1 i).set r2 j)⟩
    | [], _, p => exact p.elim
    | [_], _, p => exact p.elim
    | _ :: _ :: _ :: _, _, p => exact p.elim
theorem tPar3_M {i j m : Nat} {fs : Loc → Heap → Res (List Val)} {D : Ends} {σ : L2.St} {H : Hp} (q : tS X.K (fun ls h => (fs ls h).bind fun vs h => (match setsTg [i, j, m] vs ls with
    | some ls => .ok (.nx ls) h
    | none => .stuck : Res M.Flow)) D σ H) : tPar3 i j m (tAs X.K fs) D σ H :=
  tS_bind (g := fun ls vs h => (match setsTg [i, j, m] vs ls with
    | some ls => .ok (.nx ls) h
    | none => .stuck : Res M.Flow)) q fun vs xs S ls hK g l r p => by
    match vs, r, p with
    | [v, w, z], r, p =>
      obtain ⟨x, t, rfl, r1, y, u, rfl, r2, b, d, rfl, r3, rfl⟩ := r
      exact ⟨x, y, b, rfl, p S _ rfl g .refl (((l.set r1 i).set r2 j).set r3 m)⟩
    | [], _, p => exact p.elim
    | [_], _, p => exact p.elim
    | [_, _], _, p => exact p.elim
    | _ :: _ :: _ :: _ :: _, _, p => exact p.elim
theorem par2_ok (F : CF X c k cl) {i j : Nat} {a b : ME} {x y : Str} {px py kp p2 pos : Pos} {kt k2 : Nat} {ea eb : Expr}
    (h : okPar c [i, j] [a, b] [.Tuple [.Name x px, .Name y py] kt kp] (.Tuple [ea, eb] k2 p2) = true) : PS X (.Assign [.Tuple [.Name x px, .Name y py] kt kp] (.Tuple [ea, eb] k2 p2) pos) (tS X.K (evS cl (.par [i, j] [a, b]))) := by
  have h : (okTg c (.name i) (.Name x px) && okTg c (.name j) (.Name y py) && localB c.sc x && localB c.sc y && !(i == j) && !(x == y) && (py.line == px.line) && parV [ea, eb] && okEs c [a, b] [ea, eb]) = true := h
  simp only [Bool.and_eq_true, Bool.not_eq_true'] at h
  obtain ⟨⟨⟨⟨⟨⟨⟨⟨h1, h2⟩, h3⟩, h4⟩, h5⟩, h6⟩, h7⟩, h8⟩, h9⟩ := h
  obtain ⟨n1, _, _⟩ := nm_facts F h1
  obtain ⟨n2, _, _⟩ := nm_facts F h2
  have hN : X.N.Nodup := by rw [F.hN]; exact F.nd
  refine PS.wk (ps_par F.calm hN n1 n2 (fun e => by rw [e, beq_self_eq_true] at h5; cases h5) (local_facts F h3) (local_facts F h4) (ok_Es [a, b] F h9).pa (swapped_two F h3 h4 h6 h7 h8)) fun D σ H q => tPar_M q
theorem par3_ok (F : CF X c k cl) {i j l : Nat} {a b d : ME} {x y z : Str} {px py pz kp p2 pos : Pos} {kt k2 : Nat} {ea eb ed : Expr}
    (h : okPar c [i, j, l] [a, b, d] [.Tuple [.Name x px, .Name y py, .Name z pz] kt kp] (.Tuple [ea, eb, ed] k2 p2) = true) : PS X (.Assign [.Tuple [.Name x px, .Name y py, .Name z pz] kt kp] (.Tuple [ea, eb, ed] k2 p2) pos) (tS X.K (evS cl (.par [i, j, l] [a, b, d]))) := by
  have h : (okTg c (.name i) (.Name x px) && okTg c (.name j) (.Name y py) && okTg c (.name l) (.Name z pz) && localB c.sc x && localB c.sc y && localB c.sc z && !(i == j) && !(i == l) && !(j == l) && !(x == y) && !(x == z) && !(y == z) && (py.line == px.line) && (pz.line == px.line) && parV [ea, eb, ed] && okEs c [a, b, d] [ea, eb, ed]) = true := h
  simp only [Bool.and_eq_true, Bool.not_eq_true'] at h
  obtain ⟨⟨⟨⟨⟨⟨⟨⟨⟨⟨⟨⟨⟨⟨⟨h1, h2⟩, h3⟩, h4⟩, h5⟩, h6⟩, h7⟩, h8⟩, h9⟩, g1⟩, g2⟩, g3⟩, g4⟩, g5⟩, g6⟩, g7⟩ := h
  obtain ⟨n1, _, _⟩ := nm_facts F h1
  obtain ⟨n2, _, _⟩ := nm_facts F h2
  obtain ⟨n3, _, _⟩ := nm_facts F h3
  have hN : X.N.Nodup := by rw [F.hN]; exact F.nd
  have ne : ∀ {i j : Nat}, (i == j) = false → i ≠ j := fun h e => by rw [e, beq_self_eq_true] at h; cases h
  refine PS.wk (ps_par3 F.calm hN n1 n2 n3 (ne h7) (ne h8) (ne h9) (local_facts F h4) (local_facts F h5) (local_facts F h6) (ok_Es [a, b, d] F g7).pa (swapped_three F h4 h5 h6 g1 g2 g3 g4 g5 g6)) fun D σ H q => tPar3_M q
theorem asg2_ok (F : CF X c k cl) {i j : Nat} {m : ME} {tg tg2 e : Expr} {pos : Pos} (h : okAsg2 c i j m [tg, tg2] e = true) : PS X (.Assign [tg, tg2] e pos) (tS X.K (evS cl (.asg2 i j m))) := by
  have h : (okTg c (.name i) tg && okTg c (.name j) tg2 && okE c m e) = true := h
  simp only [Bool.and_eq_true] at h
  obtain ⟨⟨h1, h2⟩, h3⟩ := h
  cases tg with
  | Name x px =>
    cases tg2 with
    | Name y py =>
      obtain ⟨n1, l1, f1⟩ := nm_facts F h1
      obtain ⟨n2, l2, f2⟩ := nm_facts F h2
      have hN : X.N.Nodup := by rw [F.hN]; exact F.nd
      refine PS.wk (ps_asg2 (ok_E m F h3).pe (pg_name hN n1 l1 f1) (pg_name hN n2 l2 f2) rfl rfl) fun D σ H q => ?_
      exact tS_bind (g := fun ls v h => .ok (.nx ((ls.set i (some v)).set j (some v))) h) q fun v x S ls hK g l r p => p S _ rfl g .refl ((l.set r i).set r j)
    | _ => cases h2
  | _ => cases h1
theorem par_ok (F : CF X c k cl) {is : List Nat} {es : List ME} {tgs : List Expr} {e : Expr} {pos : Pos} (h : okPar c is es tgs e = true) : PS X (.Assign tgs e pos) (tS X.K (evS cl (.par is es))) := by
  have h' := h
  unfold okPar at h'
  split at h'
  · exact par2_ok F h
  · exact par3_ok F h
  · cases h'
theorem asg2s_ok (F : CF X c k cl) {i j : Nat} {m : ME} {tgs : List Expr} {e : Expr} {pos : Pos} (h : okAsg2 c i j m tgs e = true) : PS X (.Assign tgs e pos) (tS X.K (evS cl (.asg2 i j m))) := by
  have h' := h
  unfold okAsg2 at h'
  split at h'
  · exact asg2_ok F h
  · cases h'
mutual
theorem ok_S2 : ∀ (s : MS) {X : Cx} {st : Stmt}, CF X c k cl → PassesOwn (model X.prog X.w) X.A X.env X.xe → okS c s st = true → PS X st (tS X.K (evS cl s))
  | .asg ts m, X, st, F, hp, h => by
    cases st with
    | Assign tgs e pos =>
      cases tgs with
      | nil =>
        cases ts with
        | nil => cases h
        | cons t r => cases r <;> cases t <;> cases h
      | cons tg more =>
        cases ts with
        | nil => cases h
        | cons t r =>
          cases r with
          | cons _ _ => cases t <;> cases h
          | nil =>
            cases more with
            | cons _ _ => cases t <;> cases tg <;> cases h
            | nil =>
              cases t with
              | name i =>
                have h1 := Bool.and_eq_true_iff.mp (show ((okTg c (.name i) tg && okE c m e) && (!(compE e) || isComp m)) = true from h)
                have h2 := Bool.and_eq_true_iff.mp h1.1
                exact set_ok F h2.1 h2.2 h1.2
              | tup is =>
                have h1 := Bool.and_eq_true_iff.mp (show ((okTg c (.tup is) tg && okE c m e) && (!(isTupV e) || noSwap c tg e)) = true from h)
                have h2 := Bool.and_eq_true_iff.mp h1.1
                exact setT_ok F h2.1 h2.2 h1.2
              | ix a i =>
                cases tg with
                | Subscript o j p =>
                  have h1 := Bool.and_eq_true_iff.mp (show ((okE c a o && okE c i j) && okE c m e) = true from h)
                  have h2 := Bool.and_eq_true_iff.mp h1.1
                  exact setI_ok F h2.1 h2.2 h1.2
                | _ => cases h
              | dk a i =>
                cases tg with
                | Subscript o j p =>
                  have h1 := Bool.and_eq_true_iff.mp (show ((okE c a o && okE c i j) && okE c m e) = true from h)
                  have h2 := Bool.and_eq_true_iff.mp h1.1
                  exact setD_ok F h2.1 h2.2 h1.2
                | _ => cases h
              | «at» cx f o =>
                cases tg with
                | Attribute ob nm p =>
                  have h1 := Bool.and_eq_true_iff.mp (show (attrOk c cx f nm && okE c o ob && okE c m e) = true from h)
                  have h2 := Bool.and_eq_true_iff.mp h1.1
                  exact setF_ok F h2.1 h2.2 h1.2
                | _ => cases h
              | star _ _ => cases tg <;> cases h
    | _ =>
      cases ts with
      | nil => cases h
      | cons t r => cases r <;> cases t <;> cases h
  | .par is es, X, st, F, hp, h => by
    cases st with
    | Assign tgs e pos => exact par_ok F h
    | _ => cases h
  | .asg2 i j m, X, st, F, hp, h => by
    cases st with
    | Assign tgs e pos => exact asg2s_ok F h
    | _ => cases h
  | .aug i p m, X, st, F, hp, h => by
    cases st with
    | AugAssign tg op e pos =>
      cases tg with
      | Name x p0 =>
        have h1 := Bool.and_eq_true_iff.mp (show ((((binOf op == some p) && (p == .add || p == .sub)) && okTg c (.name i) (.Name x ⟨0, 0, 0, 0⟩)) && okE c m e) = true from h)
        have h2 := Bool.and_eq_true_iff.mp h1.1
        have h3 := Bool.and_eq_true_iff.mp h2.1
        have h' := Bool.and_eq_true_iff.mp (show (_ && inL x c.st) = true from h2.2)
        obtain ⟨l1, l2⟩ := F.st x (inL_ok h'.2)
        have hN : X.N.Nodup := by rw [F.hN]; exact F.nd
        have hi : X.N[i]? = some x := by rw [F.hN]; exact nm_at h'.1
        have eo := eq_of_beq h3.1
        have he := (ok_E m F h1.2).pe
        rcases Bool.or_eq_true_iff.mp h3.2 with z | z
        · have ep := eq_of_beq z
          subst ep
          cases op <;> cases eo
          exact PS.wk (ps_aug hN hi l1 he ip_addA l2) fun D σ H q => aug_M aug_add q
        · have ep := eq_of_beq z
          subst ep
          cases op <;> cases eo
          exact PS.wk (ps_aug hN hi l1 he ip_sub l2) fun D σ H q => aug_M aug_sub q
      | _ => cases h
    | _ => cases h
  | .expr m, X, st, F, hp, h => by
    cases st with
    | Expr e pos =>
      have h1 := Bool.and_eq_true_iff.mp (show (okE c m e && !(compE e)) = true from h)
      exact PS.wk (ps_expr (ok_E m F h1.1).pe (swap_plain (by simpa using h1.2))) fun D σ H q => tDrop_M q
    | _ => cases h
  | .ite t a b, X, st, F, hp, h => by
    cases st with
    | If e x y pos =>
      have h1 := Bool.and_eq_true_iff.mp (show (((okE c t e && tst t) && okB c a x) && okB c b y) = true from h)
      have h2 := Bool.and_eq_true_iff.mp h1.1
      have h3 := Bool.and_eq_true_iff.mp h2.1
      exact PS.wk (ps_if ((ok_E t F h3.1).pt h3.2) (ok_B2 a F hp h2.2) (ok_B2 b F hp h1.2)) fun D σ H q => tIfS_M q
    | _ => cases h
  | .wh t b, X, st, F, hp, h => by
    cases st with
    | While e y z pos =>
      cases z with
      | cons _ _ => cases h
      | nil =>
        have h1 := Bool.and_eq_true_iff.mp (show ((okE c t e && tst t) && okB c b y) = true from h)
        have h2 := Bool.and_eq_true_iff.mp h1.1
        exact PS.wk (ps_while hp ((ok_E t F h2.1).pt h2.2) (ok_B2 b F hp h1.2)) fun D σ H q => tWhile_M q
    | _ => cases h
  | .for t i b, X, st, F, hp, h => by
    cases st with
    | For tg it y z pos =>
      cases z with
      | cons _ _ => cases h
      | nil =>
        have h1 := Bool.and_eq_true_iff.mp (show (((okTg c t tg && plainE it) && okI c tg i it) && okB c b y) = true from h)
        have h2 := Bool.and_eq_true_iff.mp h1.1
        have h3 := Bool.and_eq_true_iff.mp h2.1
        exact PS.wk (ps_for hp F.calm (ok_I i F h2.2) (pg_of F h3.1) (ok_B2 b F hp h1.2) (fold_plain h3.2)) fun D σ H q => tFor_M (gOf_ok t) q
    | _ => cases h
  | .ret m, X, st, F, hp, h => by
    cases st with
    | Return v pos =>
      cases v with
      | some e => exact PS.wk (ps_ret (ok_E m F (show okE c m e = true from h)).pe) fun D σ H q => tRet_M q
      | none =>
        cases m with
        | lit v =>
          cases v with
          | none =>
            refine PS.wk ps_retN fun D σ H q => ?_
            obtain ⟨S, ls, hK, hH, g, l, p⟩ := q
            subst hH
            exact p S .non rfl g .refl rfl
          | _ => cases h
        | _ => cases h
    | _ => cases h
  | .kill is, X, st, F, hp, h => by cases h
  | .junk, X, st, F, hp, h => ⟨fun pins s σ H D I q => by
    obtain ⟨S, ls, _, _, _, _, p⟩ := q
    exact p.elim⟩
  | .tryb b, X, st, F, hp, h => by
    cases st with
    | Try body hs els fin pos =>
      cases hs with
      | nil => cases h
      | cons h0 hs =>
        cases els with
        | cons _ _ => cases h
        | nil =>
          cases fin with
          | cons _ _ => cases h
          | nil =>
            have F2 : CF X.nox c k cl := ⟨F.hN, F.nd, F.sc, F.kind, F.calm, F.guards, F.room, F.st, F.bl, F.gl, F.fns, F.cls, F.sys⟩
            exact ps_try_thru0 (ok_B2 b F2 (fun e s z => False.elim z) (show okB c b body = true from h))
    | _ => cases h
  | .brk, X, st, F, hp, h => by
    cases st with
    | Break pos => exact PS.wk ps_break fun D σ H q => tBreak_M q
    | _ => cases h
theorem ok_B2 : ∀ (b : List MS) {X : Cx} {ss : List Stmt}, CF X c k cl → PassesOwn (model X.prog X.w) X.A X.env X.xe → okB c b ss = true → PSs X ss (tS X.K (evB cl b))
  | [], X, ss, F, hp, h => by
    cases ss with
    | nil => exact PSs.wk pss_nil fun D σ H q => tNext_M q
    | cons _ _ => cases h
  | s :: r, X, ss, F, hp, h => by
    by_cases hk : ∃ is, s = .kill is
    · obtain ⟨is, rfl⟩ := hk
      have h : okB c r ss = true := h
      refine PSs.wk (ok_B2 r F hp h) fun D σ H q => ?_
      exact tKill_M (fb := evB cl r) (fun _ _ _ z => z) q
    · cases ss with
      | nil => cases s <;> first | exact absurd ⟨_, rfl⟩ hk | cases h
      | cons st ss =>
        have h' : okS c s st = true ∧ okB c r ss = true := by
          cases s with
          | kill is => exact absurd ⟨is, rfl⟩ hk
          | _ => exact Bool.and_eq_true_iff.mp h
        refine PSs.wk (pss_cons (ok_S2 s F hp h'.1) (ok_B2 r F hp h'.2)) fun D σ H q => ?_
        rw [evB_cons] at q
        exact tSeq_M q
end
theorem ok_S (F : CF X c k cl) (hp : PassesOwn (model X.prog X.w) X.A X.env X.xe) (s : MS) {st : Stmt} (h : okS c s st = true) : PS X st (tS X.K (evS cl s)) := ok_S2 s F hp h
theorem ok_B (F : CF X c k cl) (hp : PassesOwn (model X.prog X.w) X.A X.env X.xe) (b : List MS) {ss : List Stmt} (h : okB c b ss = true) : PSs X ss (tS X.K (evB cl b)) := ok_B2 b F hp h
end
end M
namespace M
open PySem PySem.Spec PyProof.Rows L2
/-! ### a def does what its text in small says -/
theorem start_rel {S : RS} {N : List Str} {vs : List Val} {xs : List V} {n : Nat} (r : Rels S vs xs) (h : n = N.length) (hl : vs.length ≤ N.length) : LRel S (vs.map some ++ List.replicate (n - vs.length) none) (L2.start N xs) := by
  subst h
  have hx := r.len
  refine ⟨by unfold L2.start; simp only [List.length_append, List.length_map, List.length_replicate]; omega, fun i v e => ?_⟩
  by_cases hi : i < vs.length
  · rw [List.getElem?_append_left (by simpa using hi), List.getElem?_map] at e
    cases q : vs[i]? with
    | none => rw [q] at e; cases e
    | some w =>
      rw [q] at e
      cases e
      obtain ⟨x, hx2, rx⟩ := r.get q
      refine ⟨x, ?_, rx⟩
      unfold L2.start
      rw [List.getElem?_append_left (by rw [List.length_map]; omega), List.getElem?_map, hx2]
      rfl
  · rw [List.getElem?_append_right (by simpa using Nat.le_of_not_lt hi), List.getElem?_replicate] at e
    split at e <;> cases e
/-- what is left of a call -/
theorem run_end {S : RS} (g : Good S) {cl : CallFn} {fn : Fn} {vs : List Val} {Q : VK} (hn : vs.length = fn.n) (p : Post S (runF cl fn vs S.h) Q) :
    PF S (evB cl fn.body (vs.map some ++ List.replicate (fn.slots - vs.length) none) S.h) { nx := fun _ H' => Q .non H', rt := Q } := by
  unfold runF at p
  rw [if_pos hn, ← hn] at p
  have fin : ∀ {v : Val} {h' : Heap} {S' : RS} {x : V}, Post S (dropTo fn.keep S.h v h') Q → S'.h = h' → Good S' → Ext S S' → Rel S' v x → Q x S'.H := fun {v h' S' x} p e1 g' e' r => by
    unfold dropTo at p
    cases hk : fn.keep with
    | true => rw [hk] at p; exact p S' x e1 g' e' r
    | false =>
      rw [hk] at p
      simp only [Bool.false_eq_true, if_false] at p
      obtain ⟨c, p⟩ := ite_of p
      obtain ⟨c1, c2⟩ := Bool.and_eq_true_iff.mp c
      rw [← e1] at c2 p
      obtain ⟨d1, d2, d3⟩ := drop_ok g g' e' c2
      exact p { S' with r := S.r, h := S'.h.take S.h.length } x rfl d1 d2 (d3 v x r c1)
  cases e : evB cl fn.body (vs.map some ++ List.replicate (fn.slots - vs.length) none) S.h with
  | ok f h' =>
    rw [e] at p
    cases f with
    | nx ls => exact fun S' σ e1 g' e' _ => fin (v := .none) (x := .non) p e1 g' e' rfl
    | ret v => exact fun S' x e1 g' e' r => fin p e1 g' e' r
    | brk ls => exact p.elim
  | exc _ _ => rw [e] at p; exact p.elim
  | stuck => rw [e] at p; exact p.elim
/-- the def's scope, looked at -/
def scopeOk (N ps : List Str) (sc : Scope) : Bool := (match sc.kind with
  | .function => true
  | _ => false) && !sc.isCoroutine && !sc.isGenerator && decide N.Nodup && strsSame (N.take ps.length) ps && ps.all (locB sc) && sc.names.all fun y => match y.2 with
    | .free => false
    | _ => true
theorem locB_ok {sc : Scope} {x : Str} (h : locB sc x = true) : sc.names.lookup x = some .local ∨ sc.names.lookup x = some .cell := by
  unfold locB at h
  split at h
  · rename_i e; exact .inl e
  · rename_i e; exact .inr e
  · cases h
theorem scope_ok {N ps : List Str} {sc : Scope} (h : scopeOk N ps sc = true) : FnScope N ps sc := by
  unfold scopeOk at h
  simp only [Bool.and_eq_true, List.all_eq_true, Bool.not_eq_true', decide_eq_true_eq] at h
  obtain ⟨⟨⟨⟨⟨⟨h1, h2⟩, h3⟩, h4⟩, h5⟩, h6⟩, h7⟩ := h
  refine ⟨?_, h2, h3, h4, strsSame_eq h5, fun x hx => locB_ok (h6 x hx), fun y hy e => ?_⟩
  · split at h1
    · assumption
    · cases h1
  · have q := h7 y hy
    rw [e] at q
    cases q
section
variable {P : Program} {w : World} {K : PySem.W.Frag} {mg : Str → Option Value} {base : PySem.Heap}
/-- the facts of the module, for all defs -/
structure MF (P : Program) (w : World) (K : PySem.W.Frag) (mg : Str → Option Value) (base : PySem.Heap) (c : Ck) (k : Nat) (cl : CallFn) : Prop where
  bl : ∀ x ∈ c.bl, mg x = none
  gl : ∀ p ∈ c.gls, ∃ u y, mg p.1 = some u ∧ RelV y u ∧ ∀ S : RS, S.K = K → Rel S p.2 y
  fns : ∀ (i : Nat) (e : FnS), c.fns[i]? = some e → ∃ f fd ps, FAt K mg e f ∧ (∀ sh ∈ e.shapes, Bnd K fd ps sh) ∧ FnG P w K mg base k f fd ps (cl i)
  cls : ∀ e ∈ c.cls, ClsAt K mg e
  sys : SysK K
theorem cf_of (M : MF P w K mg base c k cl) {N ps : List Str} {qual : Str} {f : Addr} {cdv : Value} {A : Around} {outer : List Env} {s : Shared} {H : Hp} (hN : c.N = N) (hsc : FnScope N ps c.sc) (hst : ∀ x ∈ c.st, locB c.sc x = true)
    (hr : Room (2 * k + 1) (A.deeper (envOfC qual c.sc s.heap.objs.size f cdv))) (hg : A.guards = some []) : CF (cxOf CXF P w K mg base N qual c.sc f cdv A outer s H EF) c k cl :=
  ⟨hN.symm, by rw [hN]; exact hsc.nd, rfl, hsc.kind, rfl, hg, hr, fun x hx => ⟨locB_ok (hst x hx), .inl rfl⟩, M.bl, M.gl, M.fns, M.cls, M.sys⟩
theorem fnG_of {c : Ck} {k : Nat} {cl : CallFn} (M : MF P w K mg base c k cl) {x qual : Str} {pa : Arguments} {body : List Stmt} {dvs : List V} {kws : List (Str × V)} {f : Addr} {fd : FuncData} {ps : List Str} {fn : Fn}
    (F : FunD K x qual pa body c.sc dvs kws f fd) (S : scopeOk c.N ps c.sc = true) (hst : c.st.all (locB c.sc) = true) (hn : fn.n = ps.length) (hsl : fn.slots = c.N.length) (hb : okB c fn.body body = true) :
    FnG P w K mg base (k + 1) f fd ps (runF cl fn) := by
  have SC := scope_ok S
  have hpl : ps.length ≤ c.N.length := by
    have z := congrArg List.length SC.pre
    rw [List.length_take] at z
    omega
  intro A outer s S0 args us xs vs Q hr hgd hK g e0 hB r rv p
  obtain ⟨oc, od, dV, kV, doc, pm, an, cdv, ct, osl, efd, lk, hcd, _, _⟩ := F.ex
  have hvn : vs.length = fn.n := by
    unfold runF at p
    by_cases z : vs.length = fn.n
    · exact z
    · rw [if_neg z] at p; exact p.elim
  have hxl : xs.length = ps.length := by rw [← rv.len, hvn, hn]
  have KX : K.In s.heap := e0.mod.kin.keeps fun b o e => (e0.bs b o e).1
  have lim : s.heap.NoLimit := e0.mod.nolimit.keeps fun b o e => (e0.bs b o e).1
  have hkd : ∀ y ∈ ps.zip us, c.sc.names.lookup y.1 = some .local ∨ (c.sc.names.lookup y.1 = some .cell ∧ ((cellsFrom (s.heap.objs.size + 1) c.sc.names []).lookup y.1).isSome = true) := fun y hy =>
    (SC.par y.1 (List.of_mem_zip (a := y.1) (b := y.2) hy).1).imp id fun q => ⟨q, PySem.W.cellsFrom_some _ _ _ (.inl q)⟩
  subst efd
  refine codeAny_call_function hr.depth (KX _ _ lk) rfl SC.co SC.gen rfl (PySem.W.codeRec_of KX hcd) (hB _ _ _ _ (wpAny_newFunctionEnv_cells SC.kind hkd fun env he sa ic => ?_))
  subst he
  refine ⟨lim.keeps ic.toInCall.keep, codeAny_func ?_⟩
  have CFx := cf_of M (qual := qual) (f := f) (cdv := cdv) (outer := outer) (s := s) (H := S0.H) rfl SC (fun x hx => (List.all_eq_true.mp hst) x hx) ((show Room (2 * k + 1 + 1) A from hr).deeper _) hgd
  have pb := ok_B CFx (passes_of (K := fun e s'' => CXF outer S0.H s EF e s'') rfl) fn.body hb
  have I0 : Inv (cxOf CXF P w K mg base c.N qual c.sc f cdv A outer s S0.H EF) [] (L2.start c.N xs) S0.H sa := inv_start SC hr.hd e0 hxl r ic
  have start : tS K (evB cl fn.body) { nx := fun _ H' => Q .non H', rt := Q } (L2.start c.N xs) S0.H := ⟨S0, _, hK, rfl, g, start_rel rv hsl (by rw [hvn, hn]; exact hpl), run_end g hvn p⟩
  refine wpAny_mono (pb.run [] sa _ S0.H _ I0 start) (fun fl sb hs => ?_) fun e sb hs => hs
  have done : ∀ {σ' : L2.St} {H' : Hp} {v : V} {u : Value}, Inv (cxOf CXF P w K mg base c.N qual c.sc f cdv A outer s S0.H EF) [] σ' H' sb → RelV v u → Q v H' → CE outer P w S0.H s Q u sb := fun {σ' H' v u} J ru q => ⟨v, H', J.os, J.bare, J.base, J.hok, ru, q⟩
  cases fl with
  | ret u => obtain ⟨v, _, _, J, ru, q⟩ := hs; exact done J ru q
  | next => obtain ⟨_, _, J, q⟩ := hs; exact done (v := V.non) (u := Value.none) J rfl q
  | brk => obtain ⟨_, _, _, q⟩ := hs; exact q.elim
  | cont => obtain ⟨_, _, _, q⟩ := hs; exact q.elim
end
end M
namespace M
open PySem PySem.Spec PyProof.Rows L2
/-! ### tokens: behind a local parameter's store one is out -/
section
variable {MM : Model} {A : Around} {E : Value → Shared → Prop} {s sO : Shared} {env : Env} {m cm : Str → Option Value}
theorem store_tok {n : Str} {v : Value} {Q : Unit → Shared → Prop} (x : InCallC sO env.locals m env.cells cm s) (fk : env.scope.kind = .function) (lk : env.kindOf n = some .local)
    (h : ∀ s', InCallC sO env.locals (fun y => if y = n then some v else m y) env.cells cm s' → 1 ≤ s'.toks → Q () s') : wpAny MM A (storeName env n v) Q E s := by
  have pl : (env.scope.kind == .class || (env.scope.kind == .module && env.locals != env.globals)) = false := by rw [fk]; rfl
  refine wpAny_storeName_local lk x.toInCall.ns (fun hh ns sb => ?_) pl
  refine h _ ⟨⟨?_, ns, fun b o e => ?_, x.toInCall.fresh⟩, fun y c hc => ?_, x.apart, x.above⟩ (Nat.succ_le_succ (Nat.zero_le _))
  · obtain ⟨_, tk, rfl⟩ := x.toInCall.same
    exact ⟨hh, _, rfl⟩
  · have lt : b ≠ env.locals := Nat.ne_of_lt (Nat.lt_of_lt_of_le (Heap.lt_size e) x.toInCall.fresh)
    exact sb.extBut b o lt (x.toInCall.keep b o e)
  · exact (x.cell y c hc).sameBut sb (Nat.ne_of_gt (x.above y c (PySem.mem_of_lookup hc)))
theorem bind_tok (f : Str × Value → PUnit → Sem (ForInStep PUnit)) (hf : ∀ n v u, f (n, v) u = (do storeName env n v; pure (.yield ⟨⟩))) (fk : env.scope.kind = .function) :
    ∀ (bs : List (Str × Value)) (m cm : Str → Option Value) (s : Shared) (Q : PUnit → Shared → Prop), InCallC sO env.locals m env.cells cm s →
      (∀ x ∈ bs, env.kindOf x.1 = some .local ∨ (env.kindOf x.1 = some .cell ∧ (env.cells.lookup x.1).isSome = true)) → (1 ≤ s.toks ∨ ∃ x ∈ bs, env.kindOf x.1 = some .local) →
      (∀ s', InCallC sO env.locals (bindL env.kindOf bs m) env.cells (bindC env.kindOf bs cm) s' → 1 ≤ s'.toks → Q ⟨⟩ s') → wpAny MM A (forIn bs ⟨⟩ f) Q E s
  | [], m, cm, s, Q, x, _, ht, h => by
    rw [List.forIn_nil]
    refine wpAny_pure (h s x ?_)
    rcases ht with ht | ⟨y, hy, _⟩
    · exact ht
    · cases hy
  | (n, v) :: r, m, cm, s, Q, x, kd, ht, h => by
    rw [List.forIn_cons, hf]
    have kr : ∀ y ∈ r, env.kindOf y.1 = some .local ∨ (env.kindOf y.1 = some .cell ∧ (env.cells.lookup y.1).isSome = true) := fun y hy => kd y (List.mem_cons_of_mem _ hy)
    rcases kd (n, v) List.mem_cons_self with hl | ⟨hl, hc⟩
    · refine wpAny_bind (wpAny_bind (store_tok x fk hl fun sa xa ta => wpAny_pure (bind_tok f hf fk r _ _ sa Q xa kr (.inl ta) fun sb xb tb => h sb ?_ tb)))
      unfold bindL bindC; rw [if_pos hl, if_pos hl]; exact xb
    · obtain ⟨c, hc⟩ := Option.isSome_iff_exists.mp hc
      have nl : ¬ env.kindOf n = some .local := by rw [hl]; decide
      have rest : ∀ sa, InCallC sO env.locals m env.cells (fun y => if y = n then some v else cm y) sa → s.toks ≤ sa.toks → wpAny MM A (forIn r ⟨⟩ f) Q E sa := fun sa xa le =>
        bind_tok f hf fk r _ _ sa Q xa kr (by
          rcases ht with ht | ⟨y, hy, hy2⟩
          · exact .inl (Nat.le_trans ht le)
          · rcases List.mem_cons.mp hy with e | hy
            · subst e; exact absurd hy2 nl
            · exact .inr ⟨y, hy, hy2⟩) fun sb xb tb => h sb (by unfold bindL bindC; rw [if_neg nl, if_neg nl]; exact xb) tb
      refine wpAny_bind (wpAny_bind (wpAny_mono (wpAny_toks (stCC (Q := fun _ sa => InCallC sO env.locals m env.cells (fun y => if y = n then some v else cm y) sa) x fk hl hc fun sa xa => xa)) (fun _ sa q => wpAny_pure (rest sa q.2 q.1)) fun _ _ q => q.2))
end
section
variable {MM : Model} {A : Around} {E : Value → Shared → Prop} {s : Shared}
theorem newEnv_tok {sc : Scope} {gl : Addr} {bs : List (Str × Value)} {qual : Str} {fu : Option Addr} {code : Value} {bt : Addr} {Q : Env → Shared → Prop} (fk : sc.kind = .function)
    (kd : ∀ x ∈ bs, sc.names.lookup x.1 = some .local ∨ (sc.names.lookup x.1 = some .cell ∧ ((cellsFrom (s.heap.objs.size + 1) sc.names []).lookup x.1).isSome = true)) (one : ∃ x ∈ bs, sc.names.lookup x.1 = some .local)
    (hQ : ∀ env, env = newEnv sc s.heap.objs.size gl (cellsFrom (s.heap.objs.size + 1) sc.names []) qual fu code none bt →
      ∀ sb, InCallC s env.locals (bindL env.kindOf bs fun _ => none) env.cells (bindC env.kindOf bs fun _ => none) sb → 1 ≤ sb.toks → Q env sb) :
    wpAny MM A (newFunctionEnv sc gl [] bs qual fu code none bt) Q E s := by
  simp only [newFunctionEnv, Option.isSome_none, Bool.false_eq_true, if_false]
  refine wpAny_bind (wpAny_alloc (wpAny_bind (wpAny_layCells _ (fun name kind cells => by cases z : kind == NameKind.cell <;> simp [z]) _ _ _ _ ?_)))
  have cok := cellsFrom_ok sc.names (s.heap.push { cls := .type "frame", data := .dict #[] }) (s.heap.objs.size + 1) [] ⟨fun _ _ hm => (nomatch hm), List.Pairwise.nil⟩ (by
    rw [Heap.size_push]; exact Nat.le_refl _)
  rw [Heap.size_push] at cok
  have esz : ({ s with heap := s.heap.push { cls := .type "frame", data := .dict #[] } } : Shared).heap.objs.size = s.heap.objs.size + 1 := Heap.size_push ..
  rw [esz]
  refine wpAny_bind (bind_tok (sO := s) (env := newEnv sc s.heap.objs.size gl (cellsFrom (s.heap.objs.size + 1) sc.names []) qual fu code none bt) _ (fun _ _ _ => rfl) fk bs (fun _ => none) (fun _ => none) _ _ ?_ kd (.inr one)
    fun sb x t => wpAny_pure (hQ _ rfl sb x t))
  exact ⟨⟨⟨_, _, rfl⟩, (Heap.Ns.new s.heap (.type "frame")).keeps (pushCells_keeps _ _), fun b o e => pushCells_keeps _ _ b o (Heap.get?_push_of_some _ e), Nat.le_refl _⟩,
    fun n c z => (cok.empty n c (PySem.mem_of_lookup z)).1, cok.apart, fun n c z => (cok.empty n c z).2⟩
end
end M
namespace M
open PySem PySem.Spec PyProof.Rows L2
/-- .. or a call of a name that is not super -/
def baseR : Expr → Bool
  | .Call (.Name x _) [] [] _ => x != ("super" : Str)
  | _ => true
theorem base_r {o : Expr} {m : Str} {env : Env} (h : baseR o = true) : attributeBase o m env (eval o env) = eval o env := by
  by_cases hb : baseE o = true
  · exact base_plain hb
  · cases o with
    | Call f as ks p =>
      cases f with
      | Name x q =>
        cases as with
        | nil =>
          cases ks with
          | nil =>
            have h : (x != ("super" : Str)) = true := h
            unfold attributeBase
            simp only [h, Bool.true_or, if_true]
          | cons _ _ => exact absurd rfl hb
        | cons _ _ => exact absurd rfl hb
      | _ => exact absurd rfl hb
    | _ => exact absurd rfl hb
/-- e.replace(.., ..) of written texts -/
def replM : ME → Option (ME × T × T)
  | .meth .replace o [.lit (.str y), .lit (.str z)] => some (o, y, z)
  | _ => none
theorem replM_ok {m o : ME} {y z : T} (h : replM m = some (o, y, z)) : m = .meth .replace o [.lit (.str y), .lit (.str z)] := by
  unfold replM at h
  split at h
  · cases h; rfl
  · cases h
def replE : Expr → Option (Expr × Str × Str)
  | .Call (.Attribute o nm apos) [.Constant (.str y) _ _, .Constant (.str z) _ _] [] pos => if nm == ("replace" : Str) && (apos.endLine == pos.line) then some (o, y, z) else none
  | _ => none
def okR (c : Ck) (m : ME) (e : Expr) : Bool := match replM m, replE e with
  | some (o, y, z), some (ob, y', z') => okE c o ob && baseR ob && (y'.cps.toList == y) && (z'.cps.toList == z) && !(y' == z')
  | _, _ => false
section
variable {X : Cx} {c : Ck} {k : Nat} {cl : CallFn}
theorem pet_ok (F : CF X c k cl) {m : ME} {e : Expr} (h : okR c m e = true) : PET X e (tM X.K (evE cl m)) ∧ compE e = false := by
  unfold okR at h
  cases hm : replM m with
  | none => rw [hm] at h; cases h
  | some q =>
    obtain ⟨o, y, z⟩ := q
    cases he : replE e with
    | none => rw [hm, he] at h; cases h
    | some q =>
      obtain ⟨ob, y', z'⟩ := q
      rw [hm, he] at h
      simp only [Bool.and_eq_true, Bool.not_eq_true', beq_iff_eq] at h
      obtain ⟨⟨⟨⟨h1, h2⟩, h3⟩, h4⟩, h5⟩ := h
      have em := replM_ok hm
      subst em h3 h4
      unfold replE at he
      split at he
      · split at he
        · rename_i hc
          cases he
          simp only [Bool.and_eq_true] at hc
          have en := eq_of_beq hc.1
          subst en
          refine ⟨fun pins s σ H Q h0 I q => ?_, rfl⟩
          refine CwR.pet_replC (ok_E o F h1).pe (by simpa using h5) rfl (base_r h2) hc.2 pins s σ H Q h0 I ?_
          refine tM_bind (g := fun ls v h => if recv .replace v h then (evEs cl [.lit (.str y'.cps.toList), .lit (.str z'.cps.toList)] ls h).bind fun vs h => evP .replace (v :: vs) h else .stuck) q fun v x S ls hK g l r p => ?_
          obtain ⟨cr, p⟩ := ite_of p
          cases v with
          | str s =>
            obtain ⟨rfl, a⟩ := r
            have p : Post S (if s.length + (s.length + 1) * z'.cps.toList.length ≤ SL ∧ y'.cps.toList ≠ z'.cps.toList then strR (PySem.Txt.replace (toS s) (toS y'.cps.toList) (toS z'.cps.toList)) S.h else .stuck) Q := p
            obtain ⟨cz, p⟩ := ite_of p
            refine ⟨_, rfl, ?_, ?_⟩
            · have e1 := cz.1
              have e2 : z'.length = z'.cps.toList.length := by simp [Str.length]
              rw [toS_len, e2]
              exact e1
            · have q := strR_of g p
              rw [toS_of, toS_of] at q
              exact q
          | _ => cases cr
        · cases he
      · cases he
end
/-! ### statements with a token out -/
mutual
def okST (c : Ck) : MS → Stmt → Bool
  | .asg [.name i] m, .Assign [.Name x p] e _ => okTg c (.name i) (.Name x p) && okR c m e
  | .ite t a b, .If e x y _ => okE c t e && tst t && (okBT c a x || okB c a x) && (okBT c b y || okB c b y)
  | _, _ => false
def okBT (c : Ck) : List MS → List Stmt → Bool
  | s :: r, st :: ss => (okS c s st || okST c s st) && okBT c r ss
  | [], [] => true
  | _, _ => false
end
section
variable {X : Cx} {c : Ck} {k : Nat} {cl : CallFn}
theorem PST.wkT {e : Stmt} {t t' : L2.TS} (h : PST X e t) (w : ∀ D σ H, t' D σ H → t D σ H) : PST X e t' := fun pins s σ H Q h0 I q => h pins s σ H Q h0 I (w Q σ H q)
theorem PSsT.wkT {e : List Stmt} {t t' : L2.TS} (h : PSsT X e t) (w : ∀ D σ H, t' D σ H → t D σ H) : PSsT X e t' := fun pins s σ H Q h0 I q => h pins s σ H Q h0 I (w Q σ H q)
theorem pst_setR (F : CF X c k cl) {i : Nat} {m : ME} {x : Str} {p pos : Pos} {e : Expr} (ht : okTg c (.name i) (.Name x p) = true) (he : okR c m e = true) : PST X (.Assign [.Name x p] e pos) (tS X.K (evS cl (.asg [.name i] m))) := by
  have h' := Bool.and_eq_true_iff.mp (show (_ && inL x c.st) = true from ht)
  obtain ⟨l1, l2⟩ := F.st x (inL_ok h'.2)
  have hN : X.N.Nodup := by rw [F.hN]; exact F.nd
  have hi : X.N[i]? = some x := by rw [F.hN]; exact nm_at h'.1
  obtain ⟨pe, hc⟩ := pet_ok F he
  intro pins s σ H D h0 I q
  rw [asg_name] at q
  have q : tAsg (tM X.K (evE cl m)) (gName i) D σ H := tAsg_M gok_name q
  refine wpAny_Assign_Name (thn (pe pins s σ H _ h0 I q) fun v sa ⟨y, Ha, Ia, ra, qa⟩ => ?_) (swap_plain hc)
  exact store_ok Ia hN hi l1 ra (fun sb Ib => ⟨_, Ha, Ib, qa⟩) l2
mutual
theorem ok_ST (F : CF X c k cl) (hp : PassesOwn (model X.prog X.w) X.A X.env X.xe) : ∀ (s : MS) {st : Stmt}, okST c s st = true → PST X st (tS X.K (evS cl s))
  | .asg ts m, st, h => by
    cases st with
    | Assign tgs e pos =>
      cases ts with
      | nil => cases h
      | cons t r =>
        cases r with
        | cons _ _ => cases t <;> cases h
        | nil =>
          cases t with
          | name i =>
            cases tgs with
            | nil => cases h
            | cons tg more =>
              cases more with
              | cons _ _ => cases tg <;> cases h
              | nil =>
                cases tg with
                | Name x p =>
                  have h1 := Bool.and_eq_true_iff.mp (show (okTg c (.name i) (.Name x p) && okR c m e) = true from h)
                  exact pst_setR F h1.1 h1.2
                | _ => cases h
          | _ => cases h
    | _ =>
      cases ts with
      | nil => cases h
      | cons t r => cases r <;> cases t <;> cases h
  | .ite t a b, st, h => by
    cases st with
    | If e x y pos =>
      have h1 := Bool.and_eq_true_iff.mp (show (((okE c t e && tst t) && (okBT c a x || okB c a x)) && (okBT c b y || okB c b y)) = true from h)
      have h2 := Bool.and_eq_true_iff.mp h1.1
      have h3 := Bool.and_eq_true_iff.mp h2.1
      have ha : PSsT X x (tS X.K (evB cl a)) := (Bool.or_eq_true_iff.mp h2.2).elim (fun z => ok_BT F hp a z) fun z => PSsT.of (ok_B F hp a z)
      have hb : PSsT X y (tS X.K (evB cl b)) := (Bool.or_eq_true_iff.mp h1.2).elim (fun z => ok_BT F hp b z) fun z => PSsT.of (ok_B F hp b z)
      exact PST.wkT (CwR.pst_if ((ok_E t F h3.1).pt h3.2) ha hb) fun D σ H q => tIfS_M q
    | _ => cases h
  | .par _ _, st, h => by cases st <;> cases h
  | .asg2 _ _ _, st, h => by cases st <;> cases h
  | .aug _ _ _, st, h => by cases st <;> cases h
  | .expr _, st, h => by cases st <;> cases h
  | .wh _ _, st, h => by cases st <;> cases h
  | .for _ _ _, st, h => by cases st <;> cases h
  | .ret _, st, h => by cases st <;> cases h
  | .kill _, st, h => by cases st <;> cases h
  | .brk, st, h => by cases st <;> cases h
  | .junk, st, h => by cases st <;> cases h
  | .tryb _, st, h => by cases st <;> cases h
theorem ok_BT (F : CF X c k cl) (hp : PassesOwn (model X.prog X.w) X.A X.env X.xe) : ∀ (b : List MS) {ss : List Stmt}, okBT c b ss = true → PSsT X ss (tS X.K (evB cl b))
  | [], ss, h => by
    cases ss with
    | nil => exact PSsT.of (PSs.wk pss_nil fun D σ H q => tNext_M q)
    | cons _ _ => cases h
  | s :: r, ss, h => by
    cases ss with
    | nil => cases h
    | cons st ss =>
      have h1 := Bool.and_eq_true_iff.mp (show ((okS c s st || okST c s st) && okBT c r ss) = true from h)
      have hs : PST X st (tS X.K (evS cl s)) := (Bool.or_eq_true_iff.mp h1.1).elim (fun z => PST.of (ok_S F hp s z)) fun z => ok_ST F hp s z
      refine PSsT.wkT (psst_cons hs (ok_BT F hp r h1.2)) fun D σ H q => ?_
      rw [evB_cons] at q
      exact tSeq_M q
end
end
end M
namespace M
open PySem PySem.Spec PyProof.Rows L2
section
variable {P : Program} {w : World} {K : PySem.W.Frag} {mg : Str → Option Value} {base : PySem.Heap}
theorem fnG_ofT {c : Ck} {k : Nat} {cl : CallFn} (M : MF P w K mg base c k cl) {x qual : Str} {pa : Arguments} {body : List Stmt} {dvs : List V} {kws : List (Str × V)} {f : Addr} {fd : FuncData} {ps : List Str} {fn : Fn}
    (F : FunD K x qual pa body c.sc dvs kws f fd) (S : scopeOk c.N ps c.sc = true) (hst : c.st.all (locB c.sc) = true) (hn : fn.n = ps.length) (hsl : fn.slots = c.N.length) (one : ps.any (fun x => decide (c.sc.names.lookup x = some .local)) = true) (hb : okBT c fn.body body = true) :
    FnG P w K mg base (k + 1) f fd ps (runF cl fn) := by
  have SC := scope_ok S
  have hpl : ps.length ≤ c.N.length := by
    have z := congrArg List.length SC.pre
    rw [List.length_take] at z
    omega
  intro A outer s S0 args us xs vs Q hr hgd hK g e0 hB r rv p
  obtain ⟨oc, od, dV, kV, doc, pm, an, cdv, ct, osl, efd, lk, hcd, _, _⟩ := F.ex
  have hvn : vs.length = fn.n := by
    unfold runF at p
    by_cases z : vs.length = fn.n
    · exact z
    · rw [if_neg z] at p; exact p.elim
  have hxl : xs.length = ps.length := by rw [← rv.len, hvn, hn]
  have KX : K.In s.heap := e0.mod.kin.keeps fun b o e => (e0.bs b o e).1
  have lim : s.heap.NoLimit := e0.mod.nolimit.keeps fun b o e => (e0.bs b o e).1
  have hkd : ∀ y ∈ ps.zip us, c.sc.names.lookup y.1 = some .local ∨ (c.sc.names.lookup y.1 = some .cell ∧ ((cellsFrom (s.heap.objs.size + 1) c.sc.names []).lookup y.1).isSome = true) := fun y hy =>
    (SC.par y.1 (List.of_mem_zip (a := y.1) (b := y.2) hy).1).imp id fun q => ⟨q, PySem.W.cellsFrom_some _ _ _ (.inl q)⟩
  have hone : ∃ y ∈ ps.zip us, c.sc.names.lookup y.1 = some .local := by
    obtain ⟨x, h1, h2⟩ := List.any_eq_true.mp one
    obtain ⟨i, hi⟩ := List.getElem?_of_mem h1
    have hu : us.length = ps.length := by rw [← r.length, hxl]
    have hiu : i < us.length := by rw [hu]; exact (List.getElem?_eq_some_iff.mp hi).1
    refine ⟨(x, us[i]), ?_, of_decide_eq_true h2⟩
    refine List.mem_of_getElem? (i := i) ?_
    rw [List.getElem?_zip_eq_some]
    exact ⟨hi, List.getElem?_eq_getElem hiu⟩
  subst efd
  refine codeAny_call_function hr.depth (KX _ _ lk) rfl SC.co SC.gen rfl (PySem.W.codeRec_of KX hcd) (hB _ _ _ _ (newEnv_tok SC.kind hkd hone fun env he sa ic tk => ?_))
  subst he
  refine ⟨lim.keeps ic.toInCall.keep, codeAny_func ?_⟩
  have CFx := cf_of M (qual := qual) (f := f) (cdv := cdv) (outer := outer) (s := s) (H := S0.H) rfl SC (fun x hx => (List.all_eq_true.mp hst) x hx) ((show Room (2 * k + 1 + 1) A from hr).deeper _) hgd
  have pb := ok_BT CFx (passes_of (K := fun e s'' => CXF outer S0.H s EF e s'') rfl) fn.body hb
  have I0 : Inv (cxOf CXF P w K mg base c.N qual c.sc f cdv A outer s S0.H EF) [] (L2.start c.N xs) S0.H sa := inv_start SC hr.hd e0 hxl r ic
  have start : tS K (evB cl fn.body) { nx := fun _ H' => Q .non H', rt := Q } (L2.start c.N xs) S0.H := ⟨S0, _, hK, rfl, g, start_rel rv hsl (by rw [hvn, hn]; exact hpl), run_end g hvn p⟩
  refine wpAny_mono (pb [] sa _ S0.H _ tk I0 start) (fun fl sb hs => ?_) fun e sb hs => hs
  have done : ∀ {σ' : L2.St} {H' : Hp} {v : V} {u : Value}, Inv (cxOf CXF P w K mg base c.N qual c.sc f cdv A outer s S0.H EF) [] σ' H' sb → RelV v u → Q v H' → CE outer P w S0.H s Q u sb := fun {σ' H' v u} J ru q => ⟨v, H', J.os, J.bare, J.base, J.hok, ru, q⟩
  cases fl with
  | ret u => obtain ⟨v, _, _, J, ru, q⟩ := hs; exact done J ru q
  | next => obtain ⟨_, _, J, q⟩ := hs; exact done (v := V.non) (u := Value.none) J rfl q
  | brk => obtain ⟨_, _, _, q⟩ := hs; exact q.elim
  | cont => obtain ⟨_, _, _, q⟩ := hs; exact q.elim
end
end M
namespace M
open PySem PySem.Spec PyProof.Rows L2
/-! ### all defs of a module -/
structure DE where
  x : Str
  ps : List Str
  N : List Str
  st : List Str
  shapes : List Shape
  fn : Fn
  pa : Arguments
  body : List Stmt
  sc : Scope
  own : Option Str := none
  q : Str := x
def DE.fs (e : DE) : FnS := ⟨e.x, e.own, e.shapes⟩
def ckOf (ds : List DE) (gls : List (Str × Val)) (bl : List Str) (cs : List ClsS) (d : DE) : Ck := ⟨d.N, d.sc, d.st, ds.map DE.fs, gls, bl, cs⟩
def okD (ds : List DE) (gls : List (Str × Val)) (bl : List Str) (cs : List ClsS) (d : DE) : Bool :=
  scopeOk d.N d.ps d.sc && d.st.all (locB d.sc) && (d.fn.n == d.ps.length) && (d.fn.slots == d.N.length) && (okB (ckOf ds gls bl cs d) d.fn.body d.body || (d.ps.any (fun x => decide (d.sc.names.lookup x = some .local)) && okBT (ckOf ds gls bl cs d) d.fn.body d.body))
def tabOf (ds : List DE) : Tab := fun i => (ds[i]?).map (·.fn)
section
variable {P : Program} {w : World} {K : PySem.W.Frag} {mg : Str → Option Value} {base : PySem.Heap}
/-- what stands of a def -/
def DefAt (K : PySem.W.Frag) (mg : Str → Option Value) (d : DE) : Prop := ∃ (dvs : List V) (kws : List (Str × V)) (f : Addr) (fd : FuncData), FAt K mg d.fs f ∧ FunD K d.x d.q d.pa d.body d.sc dvs kws f fd ∧ ∀ sh ∈ d.shapes, Bnd K fd d.ps sh
theorem all_defs {ds : List DE} {gls : List (Str × Val)} {bl : List Str} {cs : List ClsS} (hc : ds.all (okD ds gls bl cs) = true) (hd : ∀ d ∈ ds, DefAt K mg d) (hbl : ∀ x ∈ bl, mg x = none) (hgl : ∀ p ∈ gls, ∃ u y, mg p.1 = some u ∧ RelV y u ∧ ∀ S : RS, S.K = K → Rel S p.2 y) (hcs : ∀ e ∈ cs, ClsAt K mg e) (hsys : SysK K) :
    ∀ k (d : DE), MF P w K mg base (ckOf ds gls bl cs d) k (callN (tabOf ds) k)
  | 0, d => ⟨hbl, hgl, fun i e he => (by
    have he : (ds.map DE.fs)[i]? = some e := he
    rw [List.getElem?_map] at he
    obtain ⟨d', e1, rfl⟩ := Option.map_eq_some_iff.mp he
    obtain ⟨dvs, kws, f, fd, h1, h2, h3⟩ := hd d' (List.mem_of_getElem? e1)
    exact ⟨f, fd, d'.ps, h1, h3, fun A outer s S args us xs vs Q _ _ _ _ _ _ _ _ p => p.elim⟩), hcs, hsys⟩
  | k + 1, d => ⟨hbl, hgl, fun i e he => (by
    have he : (ds.map DE.fs)[i]? = some e := he
    rw [List.getElem?_map] at he
    obtain ⟨d', e1, rfl⟩ := Option.map_eq_some_iff.mp he
    obtain ⟨dvs, kws, f, fd, h1, h2, h3⟩ := hd d' (List.mem_of_getElem? e1)
    refine ⟨f, fd, d'.ps, h1, h3, ?_⟩
    have ok := (List.all_eq_true.mp hc) d' (List.mem_of_getElem? e1)
    unfold okD at ok
    obtain ⟨ok, o5⟩ := Bool.and_eq_true_iff.mp ok
    simp only [Bool.and_eq_true, beq_iff_eq] at ok
    obtain ⟨⟨⟨o1, o2⟩, o3⟩, o4⟩ := ok
    have q : FnG P w K mg base (k + 1) f fd d'.ps (runF (callN (tabOf ds) k) d'.fn) := by
      rcases Bool.or_eq_true_iff.mp o5 with o5 | o5
      · exact fnG_of (c := ckOf ds gls bl cs d') (all_defs hc hd hbl hgl hcs hsys k d') h2 o1 o2 o3 o4 o5
      · have o6 := Bool.and_eq_true_iff.mp o5
        exact fnG_ofT (c := ckOf ds gls bl cs d') (all_defs hc hd hbl hgl hcs hsys k d') h2 o1 o2 o3 o4 o6.1 o6.2
    have e2 : callN (tabOf ds) (k + 1) i = runF (callN (tabOf ds) k) d'.fn := by
      funext vs h
      show (match tabOf ds i with
        | some fn => runF (callN (tabOf ds) k) fn vs h
        | none => .stuck) = _
      have e3 : tabOf ds i = some d'.fn := by
        unfold tabOf
        rw [e1]
        rfl
      rw [e3]
    rw [e2]
    exact q), hcs, hsys⟩
end
end M
namespace M
open PySem PySem.Spec PyProof.Rows L2
/-! ### the law is called -/
theorem ints_rels {S : RS} : ∀ ns : List Int, Rels S (ns.map Val.int) (ns.map V.int)
  | [] => rfl
  | n :: r => ⟨.int n, _, rfl, rfl, ints_rels r⟩
/-- it answers True -/
def Says (cl : List Val → Heap → Res Val) (ns : List Int) : Prop := ∃ h, cl [.scr (ns.map Val.int)] [] = .ok (.bool true) h
theorem law_runG {P : Program} {w : World} {K : PySem.W.Frag} {mg mb : Str → Option Value} {k : Nat} {fa la : Addr} {fd : FuncData} {x : Str} {cl : List Val → Heap → Res Val} {sb : Shared} {its : List Value} {ns : List Int}
    (inK : K.In sb.heap) (ng : sb.heap.Ns mainGlobals mg) (nb : sb.heap.Ns builtinsNs mb) (bb : ∀ y : Str, y ≠ "__name__" → mb y = bootBuiltins y) (lim : sb.heap.NoLimit) (gens0 : sb.gens = #[])
    (hla : sb.heap.get? la = some { cls := .type "list", data := .seq its.toArray }) (areI : IntsAre its ns) (len : ns.length ≤ sizeLine) (room : Room (2 * k) callerA)
    (prom : ∀ base : PySem.Heap, K.In base → base.Ns mainGlobals mg → FnG P w K mg base k fa fd [x] cl) (bnd : ∀ (s : Shared) (u : Value), BindsTo s fd ⟨[u], []⟩ [(x, u)]) (hsay : Says cl ns) :
    codeAny (model P w) callerA (.call (.ref fa) ⟨[.ref la], []⟩) (fun r s' => r = .ok (.ret (.bool true)) ∧ OldK sb.heap s'.heap ∧ s'.os = sb.os ∧ AllBare s'.gens) sb := by
  have rels := vals_ints areI
  have same_len := areI.length
  have main : ∀ H : Hp, Only H → Scr ⟨K, [], [], H, []⟩ la (ns.map V.int) → HOk P w H sb.heap → (∀ b, H b ≠ none → b = la) → (H la ≠ none → K.lookup la = none) →
      codeAny (model P w) callerA (.call (.ref fa) ⟨[.ref la], []⟩) (fun r s' => r = .ok (.ret (.bool true)) ∧ OldK sb.heap s'.heap ∧ s'.os = sb.os ∧ AllBare s'.gens) sb := by
    intro H only scr ok one notK
    have put : ∀ {b : Addr} {o : PySem.Obj}, sb.heap.get? b = some o → H b = none → (hidT sb.heap H).get? b = some o := fun e n => hidT_get e n
    have noD : ∀ {b : Addr} {o : PySem.Obj} {es : Array DictEntry} {ep : Nat}, sb.heap.get? b = some o → o.data = .dict es ep → H b = none := fun {b o es ep} e d => by
      cases q : H b with
      | none => rfl
      | some u =>
        have eb : b = la := one b (by rw [q]; simp)
        subst eb
        rw [hla] at e; cases e
        have dd : Data.seq its.toArray _ = Data.dict es ep := d
        cases dd
    have keepNs : ∀ {b : Addr} {m : Str → Option Value}, sb.heap.Ns b m → (hidT sb.heap H).Ns b m := fun {b m} ⟨o, es, ep, e, d, r⟩ => ⟨o, es, ep, put e (noD e d), d, r⟩
    have inB : K.In (hidT sb.heap H) := fun b o e => put (inK b o e) (by
      cases q : H b with
      | none => rfl
      | some u =>
        have eb : b = la := one b (by rw [q]; simp)
        subst eb
        rw [notK (by rw [q]; simp)] at e; cases e)
    have md : Mod K mg (hidT sb.heap H) := ⟨inB, keepNs ng, ⟨mb, keepNs nb, bb⟩, let ⟨mc, h1, h2⟩ := lim; ⟨mc, keepNs h1, h2⟩⟩
    have en : Env0 P w K mg (hidT sb.heap H) callerA [] sb H := ⟨rfl, md, fun b o e => of_hidT e, Nat.le_of_eq (hidT_size _ _), trivial, fun b hb => absurd (show b ∈ ([] : List Addr) from hb) (by simp), ok, .of_eq gens0⟩
    have good : Good ⟨K, [], [], H, []⟩ := ⟨rfl, .nil, fun i o a h1 => by simp at h1, fun a m => by simp at m⟩
    obtain ⟨hh, say⟩ := hsay
    have post : Post ⟨K, [], [], H, []⟩ (cl [.scr (ns.map Val.int)] []) (fun v _ => v = .bl true) := by
      rw [say]
      exact fun S' v _ _ _ r => r
    refine codeAny_mono (prom _ inB (keepNs ng) callerA [] sb ⟨K, [], [], H, []⟩ ⟨[.ref la], []⟩ [.ref la] [.ref la] [.scr (ns.map Val.int)] _ room rfl rfl good en (bnd sb (.ref la)) (.cons rfl .nil) ⟨.ref la, [], rfl, ⟨la, _, rfl, scr, ints_rels ns⟩, rfl⟩ post) fun r s' h => ?_
    cases r with
    | error e => exact False.elim h
    | ok fl =>
      cases fl with
      | next => exact False.elim h
      | brk => exact False.elim h
      | cont => exact False.elim h
      | ret u =>
        obtain ⟨v, Hz, os, bare, un, okz, ru, ev⟩ := h
        have ev : v = .bl true := ev
        subst ev
        cases (show u = Value.bool true from ru)
        refine ⟨rfl, OldK.of_keep fun b o e => ?_, os, bare⟩
        cases q : H b with
        | none => exact un.keep b o e q (fun z => absurd (show b ∈ ([] : List Addr) from z) (by simp)) (by simp)
        | some u =>
          rcases only b with z | ⟨ob, xs, z⟩
          · rw [q] at z; cases z
          · obtain ⟨e1, _⟩ := ok b _ z
            obtain ⟨e2, _⟩ := okz b _ (un.frzs b ob _ z)
            rw [e] at e1; cases e1
            exact e2
  cases hk : K.lookup la with
  | some o =>
    have e := inK la o hk
    rw [hla] at e
    cases e
    refine main (fun _ => none) (fun _ => .inl rfl) (.inr ⟨_, its.toArray, _, hk, rfl, rfl, rfl, by rw [List.size_toArray, same_len]; exact len, by simpa using rels⟩) (fun b u z => by
      have zz : (none : Option HO) = some u := z
      cases zz) (fun b z => absurd rfl z) fun z => absurd rfl z
  | none =>
    refine main (fun b => if b = la then some (.frz { cls := .type "list", data := .seq its.toArray } (.lst (ns.map V.int))) else none) (fun b => ?_) (.inl ⟨{ cls := .type "list", data := .seq its.toArray }, if_pos rfl, fun l => ?_⟩) (fun b u z => ?_) (fun b z => ?_) fun _ => hk
    · by_cases hb : b = la
      · exact .inr ⟨_, _, if_pos hb⟩
      · exact .inl (if_neg hb)
    · rcases l with ⟨i, o, h1, _⟩ | m
      · simp at h1
      · simp at m
    · by_cases hb : b = la
      · have zz := (if_pos hb).symm.trans z
        cases zz
        subst hb
        exact ⟨hla, by rw [List.length_map]; exact len, its, _, rels, hla⟩
      · have zz := (if_neg hb).symm.trans z
        cases zz
    · by_cases hb : b = la
      · exact hb
      · exact absurd (if_neg hb) z
/-- the walk's end -/
theorem walk_ofG {l : PySem.W.OpenLaw} {n k : Nat} {q : Program} {loose : List Str} {XP : (Str → Option Value) → PySem.Heap → Prop} {YP : World → PySem.Heap → Prop} {d : DefRec} {x : Str}
    (hn : l.most = some n) (hn2 : n ≤ sizeLine) (hdf : d.params.defaults = []) (room : Room (2 * k) callerA)
    (F : ∀ (w : World) (mg : Str → Option Value) (fa : Addr) (h : PySem.Heap), YP w h → h.Ns mainGlobals mg → mg d.name = some (.ref fa) →
      ∃ (K : PySem.W.Frag) (fd : FuncData) (cl : List Val → Heap → Res Val), K.In h ∧ (∀ (s : Shared) (u : Value), BindsTo s fd ⟨[u], []⟩ [(x, u)]) ∧ (∀ ns : List Int, ns.length ≤ n → Says cl ns) ∧
        ∀ base : PySem.Heap, K.In base → base.Ns mainGlobals mg → FnG l.prog w K mg base k fa fd [x] cl) :
    PySem.W.WalkO q loose XP YP l.row.toRowW d [] (fun f vs => PySem.call f vs) := by
  refine Att.attach_call hn hdf fun w s₀ sb mg mb fa o pm cd doc a its ns G Y ho hd hcd hmg hobj hints hlen hg => ?_
  obtain ⟨K, fd, cl, KX, hb, say, pr⟩ := F w mg fa _ Y G.T.g hmg
  exact law_runG KX G.T.g G.T.b G.T.builtins G.T.nolimit hg hobj hints (Nat.le_trans hlen hn2) room pr hb (say ns hlen)
end M
namespace M
open PySem PySem.Spec PyProof.Rows L2
/-! ### the head's facts, for a module of small texts -/
mutual
/-- the object is what the value says -/
def valB (K : PySem.W.Frag) : Val → Value → Bool
  | .none, .none => true
  | .bool b, .bool c => b == c
  | .int i, .int j _ => decide (i = j)
  | .str s, .str y _ => (y.cps.toList == s) && asc s
  | .tup xs, .ref a => (match K.lookup a with
    | some ⟨.type c, _, .seq its _, _⟩ => decide (c = "tuple") && (decide (its.size ≤ sizeLine) && valsB K xs its.toList)
    | _ => false)
  | _, _ => false
def valsB (K : PySem.W.Frag) : List Val → List Value → Bool
  | [], [] => true
  | v :: r, u :: us => valB K v u && valsB K r us
  | _, _ => false
end
mutual
theorem valB_ok {K : PySem.W.Frag} : ∀ {v : Val} {u : Value}, valB K v u = true → ∃ y, RelV y u ∧ ∀ S : RS, S.K = K → Rel S v y
  | .none, u, h => by
    cases u with
    | none => exact ⟨.non, rfl, fun _ _ => rfl⟩
    | _ => cases h
  | .bool b, u, h => by
    cases u with
    | bool c => exact ⟨.bl b, by rw [eq_of_beq (show (b == c) = true from h)]; rfl, fun _ _ => rfl⟩
    | _ => cases h
  | .int i, u, h => by
    cases u with
    | int j t => exact ⟨.int i, ⟨t, by rw [of_decide_eq_true (show decide (i = j) = true from h)]⟩, fun _ _ => rfl⟩
    | _ => cases h
  | .str s, u, h => by
    cases u with
    | str y t =>
      obtain ⟨h1, h2⟩ := Bool.and_eq_true_iff.mp (show ((y.cps.toList == s) && asc s) = true from h)
      have e : y = toS s := by
        have := eq_of_beq h1
        rw [← this]; rw [toS_of]
      exact ⟨.str (toS s), ⟨t, by rw [e]⟩, fun _ _ => ⟨rfl, h2⟩⟩
    | _ => cases h
  | .tup xs, u, h => by
    cases u with
    | ref a =>
      have h : (match K.lookup a with
        | some ⟨.type c, _, .seq its _, _⟩ => decide (c = "tuple") && (decide (its.size ≤ sizeLine) && valsB K xs its.toList)
        | _ => false) = true := h
      cases q : K.lookup a with
      | none => rw [q] at h; cases h
      | some o =>
        obtain ⟨oc, od, dt, osl⟩ := o
        rw [q] at h
        cases oc with
        | type c =>
          cases dt with
          | seq its n =>
            obtain ⟨h1, h2⟩ := Bool.and_eq_true_iff.mp (show (decide (c = "tuple") && (decide (its.size ≤ sizeLine) && valsB K xs its.toList)) = true from h)
            obtain ⟨h3, h4⟩ := Bool.and_eq_true_iff.mp h2
            obtain ⟨ys, r1, r2⟩ := valsB_ok h4
            refine ⟨.ref a, rfl, fun S hS => ⟨a, ys, rfl, .inr ⟨_, its, n, by rw [hS]; exact q, congrArg Value.type (of_decide_eq_true h1), rfl, of_decide_eq_true h3, r1⟩, r2 S hS⟩⟩
          | _ => cases h
        | _ => cases dt <;> cases h
    | _ => cases h
  | .list _, _, h => by cases h
  | .dict _ _, _, h => by cases h
  | .obj _ _ _, _, h => by cases h
  | .ref _, _, h => by cases h
  | .fn _, _, h => by cases h
  | .cls _, _, h => by cases h
  | .ty _, _, h => by cases h
  | .scr _, _, h => by cases h
theorem valsB_ok {K : PySem.W.Frag} : ∀ {vs : List Val} {us : List Value}, valsB K vs us = true → ∃ ys, Vals ys us ∧ ∀ S : RS, S.K = K → Rels S vs ys
  | [], us, h => by
    cases us with
    | nil => exact ⟨[], .nil, fun _ _ => rfl⟩
    | cons _ _ => cases h
  | v :: r, us, h => by
    cases us with
    | nil => cases h
    | cons u us =>
      obtain ⟨h1, h2⟩ := Bool.and_eq_true_iff.mp (show (valB K v u && valsB K r us) = true from h)
      obtain ⟨y, a1, a2⟩ := valB_ok h1
      obtain ⟨ys, b1, b2⟩ := valsB_ok h2
      exact ⟨y :: ys, .cons a1 b1, fun S hS => ⟨y, ys, rfl, a2 S hS, b2 S hS⟩⟩
end
def glF (K : PySem.W.Frag) (p : Str × Val) : Bool := match PySem.W.nsIn K mainGlobals p.1 with
  | some (some u) => valB K p.2 u
  | _ => false
def blF (K : PySem.W.Frag) (x : Str) : Bool := He.eqO (PySem.W.nsIn K mainGlobals x) (some none)
/-- a def's datum for the head -/
structure DX where
  d : DE
  dfl : List He.Dv := []
  kwd : List (Str × He.Dv) := []
def DX.at_ (e : DX) : Str × Option Str := match e.d.own with
  | none => (e.d.x, none)
  | some cx => (cx, some e.d.x)
def DX.dd (e : DX) : He.DefD := ⟨e.at_, e.d.x, e.d.q, e.d.pa, e.d.body, e.d.sc, e.dfl, e.kwd⟩
/-- a def stands where it is looked for -/
def atF (K : PySem.W.Frag) (e : DX) : Bool := match e.d.own with
  | none => He.eqO (PySem.W.nsIn K mainGlobals e.d.x) (some (some (.ref (He.fAd K e.dd.at_))))
  | some cx => if e.d.x = ("__init__" : Str) then PySem.W.makesIn K (He.ga K cx) && (He.eqO (PySem.W.findIn K (.ref (He.ga K cx)) ("__init__" : Str)) (some (some (.ref (He.fAd K e.dd.at_)))) && (PySem.W.isFn K (.ref (He.fAd K e.dd.at_)) && PySem.W.keepIn K (.ref (He.ga K cx))))
    else He.eqO (PySem.W.findIn K (.ref (He.ga K cx)) e.d.x) (some (some (.ref (He.fAd K e.dd.at_)))) && (PySem.W.isFn K (.ref (He.fAd K e.dd.at_)) && PySem.W.keepIn K (.ref (He.fAd K e.dd.at_)))
def dxF (K : PySem.W.Frag) (e : DX) : Bool := atF K e && e.dd.ok K
def clsF (K : PySem.W.Frag) (e : ClsS) : Bool := He.eqO (PySem.W.nsIn K mainGlobals e.x) (some (some (.ref (He.ga K e.x)))) && (PySem.W.plainGet K (He.ga K e.x) Str.empty && (PySem.W.hasDictIn K (He.ga K e.x) && (PySem.W.plainOver K (He.ga K e.x) &&
  (He.eqO (PySem.W.findIn K (.ref (He.ga K e.x)) ("__setattr__" : Str)) (some (some (.builtin "object.__setattr__"))) && e.flds.all fun f => He.eqO (PySem.W.findIn K (.ref (He.ga K e.x)) f) (some none)))))
def sysF (K : PySem.W.Frag) : Bool := match K.lookup sysModules with
  | some ⟨.type c, _, _, _⟩ => decide (c = "dict")
  | _ => false
theorem sysF_ok {K : PySem.W.Frag} (h : sysF K = true) : SysK K := by
  unfold sysF at h
  cases e : K.lookup sysModules with
  | none => rw [e] at h; cases h
  | some o =>
    obtain ⟨oc, od, dt, osl⟩ := o
    rw [e] at h
    cases oc with
    | type c => exact ⟨_, e, congrArg Value.type (of_decide_eq_true h)⟩
    | _ => cases h
def okF (es : List DX) (gls : List (Str × Val)) (bls : List Str) (cs : List ClsS) (K : PySem.W.Frag) : Bool := gls.all (glF K) && (bls.all (blF K) && (es.all (dxF K) && (cs.all (clsF K) && sysF K)))
def obsF (es : List DX) (gls : List (Str × Val)) (bls : List Str) (cs : List ClsS) (K : PySem.W.Frag) : He.AlD := (okF es gls bls cs K, es.map fun e => He.fnW K e.dd.at_)
def valF (es : List DX) : He.AlD := (true, es.map fun e => e.dd.val)
def SaysF (es : List DX) (gls : List (Str × Val)) (bls : List Str) (cs : List ClsS) (K : PySem.W.Frag) : Prop := obsF es gls bls cs K = valF es
def obsFG (n : Nat) (es : List DX) (gls : List (Str × Val)) (bls : List Str) (cs : List ClsS) (g : Addr → Option PySem.Obj) : He.AlD := obsF es gls bls cs (He.frG g (sysModules :: He.asD g n))
def hookF (n : Nat) (es : List DX) (gls : List (Str × Val)) (bls : List Str) (cs : List ClsS) : PySem.W.Hook where
  α := He.AlD
  obs := fun s => obsFG n es gls bls cs s.heap.get?
  val := fun _ => valF es
  says := fun _ h => ∃ K : PySem.W.Frag, K.In h ∧ SaysF es gls bls cs K
  of := fun _ _ e => ⟨_, He.frG_in, e⟩
  keeps := fun _ _ _ ⟨K, hK, c⟩ k => ⟨K, PySem.W.Frag.In.keeps hK k, c⟩
theorem obsFG_eq {n : Nat} {es : List DX} {gls : List (Str × Val)} {bls : List Str} {cs : List ClsS} {g : Addr → Option PySem.Obj} {s : Shared} (h : ∀ a, g a = s.heap.get? a) : obsFG n es gls bls cs g = (hookF n es gls bls cs).obs s := by
  have e : g = s.heap.get? := funext h
  rw [e] <;> rfl
section
variable {P : Program} {w : World} {K : PySem.W.Frag} {mg : Str → Option Value} {h : PySem.Heap} {es : List DX} {gls : List (Str × Val)} {bls : List Str} {cs : List ClsS}
theorem SaysF.parts (c : SaysF es gls bls cs K) : (∀ p ∈ gls, glF K p = true) ∧ (∀ x ∈ bls, blF K x = true) ∧ (∀ e ∈ es, dxF K e = true) ∧ (∀ e ∈ cs, clsF K e = true) ∧ sysF K = true := by
  have c1 : okF es gls bls cs K = true := congrArg (fun z : He.AlD => z.1) c
  obtain ⟨h1, h2⟩ := Bool.and_eq_true_iff.mp c1
  obtain ⟨h3, h4⟩ := Bool.and_eq_true_iff.mp h2
  obtain ⟨h5, h6⟩ := Bool.and_eq_true_iff.mp h4
  obtain ⟨h6, h7⟩ := Bool.and_eq_true_iff.mp h6
  exact ⟨List.all_eq_true.mp h1, List.all_eq_true.mp h3, List.all_eq_true.mp h5, List.all_eq_true.mp h6, h7⟩
theorem atF_ok (X : K.In h) (G : h.Ns mainGlobals mg) {e : DX} (q : atF K e = true) (kp : PySem.W.keepIn K (.ref (He.fAd K e.dd.at_)) = true) : FAt K mg e.d.fs (He.fAd K e.dd.at_) := by
  unfold atF at q
  unfold FAt DE.fs
  cases ho : e.d.own with
  | none =>
    rw [ho] at q
    exact ⟨PySem.W.mg_of X G (He.eqO_ok q), kp⟩
  | some cx =>
    rw [ho] at q
    simp only at q ⊢
    by_cases hi : e.d.x = ("__init__" : Str)
    · rw [if_pos hi] at q ⊢
      simp only [Bool.and_eq_true] at q
      exact ⟨q.1, He.eqO_ok q.2.1, q.2.2.1, q.2.2.2⟩
    · rw [if_neg hi] at q ⊢
      simp only [Bool.and_eq_true] at q
      exact ⟨He.eqO_ok q.1, q.2.1, q.2.2⟩
theorem SaysF.clsAt (X : K.In h) (G : h.Ns mainGlobals mg) (c : SaysF es gls bls cs K) : ∀ e ∈ cs, ClsAt K mg e := fun e he => by
  have q := c.parts.2.2.2.1 e he
  unfold clsF at q
  simp only [Bool.and_eq_true, List.all_eq_true] at q
  obtain ⟨q1, q2, q3, q4, q5, q6⟩ := q
  exact ⟨PySem.W.mg_of X G (He.eqO_ok q1), ⟨q2, q3, q4, He.eqO_ok q5⟩, fun f hf => He.eqO_ok (q6 f hf)⟩
/-- how each def's calls bind -/
def Binders (es : List DX) : Prop := ∀ e ∈ es, ∀ (K : PySem.W.Frag) (f : Addr) (fd : FuncData), FunD K e.d.x e.d.q e.d.pa e.d.body e.d.sc (e.dd.dvs K) (e.dd.kws K) f fd → ∀ sh ∈ e.d.shapes, Bnd K fd e.d.ps sh
theorem SaysF.defAt (X : K.In h) (G : h.Ns mainGlobals mg) (c : SaysF es gls bls cs K) (hb : Binders es) : ∀ d ∈ es.map DX.d, DefAt K mg d := by
  intro d hd
  obtain ⟨e, he, rfl⟩ := List.mem_map.mp hd
  have q := c.parts.2.2.1 e he
  obtain ⟨q1, q2⟩ := Bool.and_eq_true_iff.mp q
  obtain ⟨i, hi⟩ := List.getElem?_of_mem he
  have e1 : es.map (fun e => He.fnW K e.dd.at_) = es.map fun e => e.dd.val := congrArg (fun z : He.AlD => z.2) c
  have e2 : (es.map (fun e => He.fnW K e.dd.at_))[i]? = (es.map fun e => e.dd.val)[i]? := by rw [e1]
  rw [List.getElem?_map, List.getElem?_map, hi] at e2
  obtain ⟨fd, F⟩ := He.DefD.funD (d := e.dd) (Option.some.inj e2) q2
  exact ⟨_, _, _, fd, atF_ok X G q1 F.kp, F, hb e he K _ fd F⟩
theorem SaysF.bl (X : K.In h) (G : h.Ns mainGlobals mg) (c : SaysF es gls bls cs K) : ∀ x ∈ bls, mg x = none := fun x hx => PySem.W.mg_none_of X G (He.eqO_ok (c.parts.2.1 x hx))
theorem SaysF.gl (X : K.In h) (G : h.Ns mainGlobals mg) (c : SaysF es gls bls cs K) : ∀ p ∈ gls, ∃ u y, mg p.1 = some u ∧ RelV y u ∧ ∀ S : RS, S.K = K → Rel S p.2 y := fun p hp => by
  have q := c.parts.1 p hp
  unfold glF at q
  cases e : PySem.W.nsIn K mainGlobals p.1 with
  | none => rw [e] at q; cases q
  | some o =>
    rw [e] at q
    cases o with
    | none => cases q
    | some u =>
      obtain ⟨y, r1, r2⟩ := valB_ok q
      exact ⟨u, y, PySem.W.mg_of X G e, r1, r2⟩
/-- the law's def, as the walk's end wants it; the law is the first of the defs -/
theorem facts (hc : (es.map DX.d).all (okD (es.map DX.d) gls bls cs) = true) (hb : Binders es) {d : DX} {r : List DX} {x : Str} {k : Nat} {fa : Addr} (he : es = d :: r) (hx : d.d.ps = [x]) (hd0 : d.dfl = []) (hown : d.d.own = none) (hq : d.d.q = d.d.x)
    (hbind : ∀ (kV doc pm : Value) (an : Option Addr) (cdv ct : Value) (us : List Value), us.length = [x].length → bindArgs (PySem.W.fnOf d.d.x d.d.x d.d.pa d.d.body d.d.sc .none kV doc pm an cdv ct) ⟨us, []⟩ = pure ([x].zip us))
    (X : K.In h) (G : h.Ns mainGlobals mg) (c : SaysF es gls bls cs K) (hfa : mg d.d.x = some (.ref fa)) :
    ∃ fd : FuncData, (∀ (s : Shared) (u : Value), BindsTo s fd ⟨[u], []⟩ [(x, u)]) ∧ ∀ base : PySem.Heap, K.In base → base.Ns mainGlobals mg → FnG P w K mg base (k + 1) fa fd [x] (callN (tabOf (es.map DX.d)) (k + 1) 0) := by
  subst he
  have q := c.parts.2.2.1 d List.mem_cons_self
  obtain ⟨q1, q2⟩ := Bool.and_eq_true_iff.mp q
  have e1 : (d :: r).map (fun e => He.fnW K e.dd.at_) = (d :: r).map fun e => e.dd.val := congrArg (fun z : He.AlD => z.2) c
  obtain ⟨fd, F⟩ := He.DefD.funD (d := d.dd) (List.cons.inj e1).1 q2
  have fat := atF_ok X G q1 F.kp
  unfold FAt DE.fs at fat
  rw [hown] at fat
  have e2 := hfa.symm.trans fat.1
  have F' : FunD K d.d.x d.d.x d.d.pa d.d.body d.d.sc [] (d.dd.kws K) (He.fAd K d.dd.at_) fd := by
    have e3 : d.dd.dvs K = [] := by show d.dfl.map _ = []; rw [hd0]; rfl
    rw [← e3]
    have F2 : FunD K d.d.x d.d.q d.d.pa d.d.body d.d.sc (d.dd.dvs K) (d.dd.kws K) (He.fAd K d.dd.at_) fd := F
    rw [hq] at F2
    exact F2
  refine ⟨fd, fun s u => FunD.bindsA F' hbind s [u] rfl, fun base KB GB => ?_⟩
  have mf := all_defs (P := P) (w := w) (base := base) hc (c.defAt X G hb) (c.bl X G) (c.gl X G) (c.clsAt X G) (sysF_ok c.parts.2.2.2.2) k d.d
  have ok := (List.all_eq_true.mp hc) d.d List.mem_cons_self
  unfold okD at ok
  obtain ⟨ok, o5⟩ := Bool.and_eq_true_iff.mp ok
  simp only [Bool.and_eq_true, beq_iff_eq] at ok
  obtain ⟨⟨⟨o1, o2⟩, o3⟩, o4⟩ := ok
  have ef : fa = He.fAd K d.dd.at_ := by cases e2; rfl
  rw [ef, ← hx]
  show FnG P w K mg base (k + 1) _ fd d.d.ps (runF (callN (tabOf ((d :: r).map DX.d)) k) d.d.fn)
  rcases Bool.or_eq_true_iff.mp o5 with o5 | o5
  · exact fnG_of (c := ckOf ((d :: r).map DX.d) gls bls cs d.d) mf F' o1 o2 o3 o4 o5
  · have o6 := Bool.and_eq_true_iff.mp o5
    exact fnG_ofT (c := ckOf ((d :: r).map DX.d) gls bls cs d.d) mf F' o1 o2 o3 o4 o6.1 o6.2
/-- a call that hands in every parameter, of a def without defaults -/
theorem bnd_full {x qual : Str} {params : Arguments} {body : List Stmt} {scope : Scope} {dvs : List V} {kws : List (Str × V)} {f : Addr} {fd : FuncData} {ps : List Str} {sh : Shape} (F : FunD K x qual params body scope dvs kws f fd) (hd : dvs = [])
    (hh : ∀ (kV doc pm : Value) (an : Option Addr) (cdv ct : Value) (us ws : List Value), us.length = sh.n → ws.length = sh.ks.length → ∃ zs, Paired (SelR K (us ++ ws)) sh.sel zs ∧ bindArgs (PySem.W.fnOf x qual params body scope .none kV doc pm an cdv ct) ⟨us, sh.ks.zip ws⟩ = pure (ps.zip zs)) : Bnd K fd ps sh := by
  obtain ⟨oc, od, dV, kV, doc, pm, an, cdv, ct, osl, rfl, lk, hcd, hD, hK⟩ := F.ex
  intro s us ws _ h1 h2
  rcases hD with ⟨_, rfl⟩ | ⟨e, _⟩
  · obtain ⟨zs, q1, q2⟩ := hh kV doc pm an cdv ct us ws h1 h2
    exact ⟨zs, q1, .of_eq q2⟩
  · exact absurd hd e
/-- a call that leaves out some of what stands behind the star -/
theorem bnd_kw {x qual : Str} {params : Arguments} {body : List Stmt} {scope : Scope} {dvs : List V} {kws : List (Str × V)} {f : Addr} {fd : FuncData} {ps : List Str} {sh : Shape} (F : FunD K x qual params body scope dvs kws f fd) (hd : dvs = []) (ms : List (Str × V)) (hk : kws ≠ []) (hm : ∀ q ∈ ms, q ∈ kws)
    (hh : ∀ (D : Addr) (doc pm : Value) (an : Option Addr) (cdv ct : Value) (us ws ks : List Value), us.length = sh.n → ws.length = sh.ks.length → Vals (ms.map (·.2)) ks →
      ∃ zs, Paired (SelR K (us ++ ws)) sh.sel zs ∧ KwChain D ((ms.map (·.1)).zip ks) (bindArgs (PySem.W.fnOf x qual params body scope .none (.ref D) doc pm an cdv ct) ⟨us, sh.ks.zip ws⟩) (ps.zip zs)) : Bnd K fd ps sh := by
  obtain ⟨oc, od, dV, kV, doc, pm, an, cdv, ct, osl, rfl, lk, hcd, hD, hK⟩ := F.ex
  intro s us ws X h1 h2
  rcases hD with ⟨_, rfl⟩ | ⟨e, _⟩
  · rcases hK with e | ⟨D, rfl, hq⟩
    · exact absurd e hk
    · obtain ⟨ks, _, rk, hks⟩ := kwd_vals (K := K) (D := D) (ms := ms) fun q m => hq q (hm q m)
      obtain ⟨zs, q1, q2⟩ := hh D doc pm an cdv ct us ws ks h1 h2 rk
      exact ⟨zs, q1, BindsTo.of_looks fun M => KwChain.looks X hks q2⟩
  · exact absurd hd e
end
theorem mall_nil {A : Type} {P : A → Prop} : ∀ q ∈ ([] : List A), P q := fun e he => by cases he
theorem mall_cons {A : Type} {P : A → Prop} {a : A} {r : List A} (h : P a) (t : ∀ q ∈ r, P q) : ∀ q ∈ a :: r, P q := fun e he => by
  rcases List.mem_cons.mp he with rfl | he
  · exact h
  · exact t e he
def BindersAt (e : DX) : Prop := ∀ (K : PySem.W.Frag) (f : Addr) (fd : FuncData), FunD K e.d.x e.d.q e.d.pa e.d.body e.d.sc (e.dd.dvs K) (e.dd.kws K) f fd → ∀ sh ∈ e.d.shapes, Bnd K fd e.d.ps sh
theorem bnil : Binders [] := fun e he => by cases he
theorem bcons {e : DX} {r : List DX} (h : BindersAt e) (t : Binders r) : Binders (e :: r) := fun e' he => by
  rcases List.mem_cons.mp he with rfl | he
  · exact h
  · exact t e' he
theorem snil {P : Shape → Prop} : ∀ sh ∈ ([] : List Shape), P sh := fun e he => by cases he
theorem scons {P : Shape → Prop} {s : Shape} {r : List Shape} (h : P s) (t : ∀ sh ∈ r, P sh) : ∀ sh ∈ s :: r, P sh := fun e he => by
  rcases List.mem_cons.mp he with rfl | he
  · exact h
  · exact t e he
end M
namespace M
open PySem PySem.Spec PyProof.Rows
/-! ### the signs of what repr tells are few and plain -/
inductive F2 {A B : Type} (R : A → B → Prop) : List A → List B → Prop
  | nil : F2 R [] []
  | cons {a : A} {b : B} {as : List A} {bs : List B} : R a b → F2 R as bs → F2 R (a :: as) (b :: bs)
def low (n : Nat) (s : Str) : Prop := s.length ≤ n ∧ ∀ c ∈ s.cps.toList, c < 128
theorem low.mono {n m : Nat} {s : Str} (h : low n s) (l : n ≤ m) : low m s := ⟨Nat.le_trans h.1 l, h.2⟩
theorem low_asc {n : Nat} {s : Str} (h : low n s) (l : n ≤ SL) : asc s.cps.toList = true := by
  unfold asc
  rw [Bool.and_eq_true, List.all_eq_true]
  refine ⟨fun c hc => decide_eq_true (h.2 c hc), decide_eq_true (Nat.le_trans ?_ l)⟩
  have := h.1
  simpa [Str.length] using this
theorem low_app {n m : Nat} {s t : Str} (h : low n s) (k : low m t) : low (n + m) (s ++ t) := by
  refine ⟨?_, fun c hc => ?_⟩
  · rw [strLen_append]; have := h.1; have := k.1; omega
  · rw [cps_toList_append, List.mem_append] at hc
    exact hc.elim (h.2 c) (k.2 c)
theorem reprChar_low : ∀ q, (q = 39 ∨ q = 34) → ∀ c, c < 128 → ∀ d ∈ Builtin.Str.reprChar q c, d < 128 := by
  have h : ∀ c, c < 128 → (∀ d ∈ Builtin.Str.reprChar 39 c, d < 128) ∧ ∀ d ∈ Builtin.Str.reprChar 34 c, d < 128 := by decide +kernel
  intro q hq c hc
  rcases hq with rfl | rfl
  · exact (h c hc).1
  · exact (h c hc).2
theorem fold_low (q : Nat) (hq : q = 39 ∨ q = 34) : ∀ (l : List Nat) (acc : Array Nat), (∀ c ∈ l, c < 128) → (∀ c ∈ acc.toList, c < 128) → ∀ c ∈ (l.foldl (fun out c => out ++ (Builtin.Str.reprChar q c).toArray) acc).toList, c < 128
  | [], acc, _, ha => ha
  | c :: r, acc, h, ha => by
    rw [List.foldl_cons]
    refine fold_low q hq r _ (fun d hd => h d (List.mem_cons_of_mem _ hd)) fun d hd => ?_
    rw [Array.toList_append, List.mem_append] at hd
    rcases hd with hd | hd
    · exact ha d hd
    · exact reprChar_low q hq c (h c List.mem_cons_self) d (by simpa using hd)
theorem reprText_low {s : Str} (h : ∀ c ∈ s.cps.toList, c < 128) : low (10 * s.length + 2) (reprText s) := by
  refine ⟨StrLaws.reprText_len s fun c hc => Nat.lt_trans (h c hc) (by decide), fun c hc => ?_⟩
  have hq : reprQuote s = 39 ∨ reprQuote s = 34 := by unfold reprQuote; split <;> simp
  unfold reprText at hc
  have hc : c ∈ ((s.cps.foldl (fun out c => out ++ (Builtin.Str.reprChar (reprQuote s) c).toArray) #[reprQuote s]).push (reprQuote s)).toList := hc
  rw [Array.toList_push, List.mem_append] at hc
  rcases hc with hc | hc
  · rw [← Array.foldl_toList] at hc
    refine fold_low _ hq _ _ h (fun d hd => ?_) c hc
    have : d = reprQuote s := by simpa using hd
    rw [this]; rcases hq with e | e <;> rw [e] <;> decide
  · have : c = reprQuote s := by simpa using hc
    rw [this]; rcases hq with e | e <;> rw [e] <;> decide
theorem int_low {i : Int} (h : i.natAbs < 2 ^ 1000) : low 1001 ((toString i : String) : Str) := by
  refine ⟨?_, fun c hc => ?_⟩
  · have e : ((toString i : String) : Str).length = (toString i).length := by
      have : ((toString i : String) : Str).length = ((toString i : String) : Str).cps.toList.length := by simp [Str.length]
      rw [this, signs_ofString, List.length_map, String.length_toList]
    rw [e]
    have : i.natAbs.log2 < 1000 := by
      by_cases z : i.natAbs = 0
      · rw [z]; decide
      · exact (Nat.log2_lt z).mpr h
    exact int_text_length_le (by decide) this
  · rw [signs_ofString] at hc
    obtain ⟨ch, hc, e⟩ := List.mem_map.mp hc
    rcases int_sign i ch hc with hd | hd
    · have := digit_range hd; omega
    · rw [hd] at e; have : (45 : Nat) = c := e; omega
mutual
/-- no more signs than these has repr -/
def wt : Val → Nat
  | .int _ => 1001
  | .str s => 10 * s.length + 2
  | .tup xs => wts xs + 3
  | .list xs => wts xs + 2
  | .dict ks vs => wts ks + wts vs + 2
  | _ => 5
def wts : List Val → Nat
  | [] => 0
  | x :: r => wt x + 2 + wts r
end
mutual
/-- plain signs, numbers that are not too great -/
def okA : Val → Bool
  | .none => true
  | .bool _ => true
  | .int i => decide (i.natAbs < 2 ^ 1000)
  | .str s => s.all fun c => decide (c < 128)
  | .tup xs => okAs xs
  | .list xs => okAs xs
  | .dict ks vs => okAs ks && okAs vs
  | _ => false
def okAs : List Val → Bool
  | [] => true
  | x :: r => okA x && okAs r
end
theorem textFrom_low : ∀ (ts : List Str) (k : Nat) (acc : Str) (ns : List Nat) (n : Nat), low n acc → F2 (fun n t => low n t) ns ts → low (n + ns.sum + 2 * ns.length) (textFrom k acc ts)
  | [], k, acc, ns, n, h, hs => by cases hs; exact h.mono (by simp)
  | t :: r, k, acc, ns, n, h, hs => by
    cases hs with
    | cons h1 h2 =>
      rename_i m ns
      have s : low 2 ((if k > 0 then ", " else "" : String) : Str) := by split <;> exact ⟨by decide, by decide⟩
      have := textFrom_low r (k + 1) _ ns _ (low_app (low_app h s) h1) h2
      refine this.mono ?_
      simp only [List.sum_cons, List.length_cons]; omega
theorem join_low : ∀ (ts : List Str) (ns : List Nat), F2 (fun n t => low n t) ns ts → low (ns.sum + 2 * ns.length) (Str.join ", " ts)
  | [], _, h => by cases h; exact ⟨by decide, by decide⟩
  | [t], _, h => by
    cases h with
    | cons h1 h2 => cases h2; rw [join_one]; exact h1.mono (by simp)
  | t :: u :: r, _, h => by
    cases h with
    | cons h1 h2 =>
      rw [join_cons_cons]
      have s : low 2 ((", " : String) : Str) := ⟨by decide, by decide⟩
      have := low_app (low_app h1 s) (join_low (u :: r) _ h2)
      refine this.mono ?_
      simp only [List.sum_cons, List.length_cons]; omega
mutual
theorem shown_low : ∀ {v : Val}, okA v = true → low (wt v) (PyData.shown (toPy v))
  | .none, _ => ⟨by decide, by decide⟩
  | .bool true, _ => ⟨by decide, by decide⟩
  | .bool false, _ => ⟨by decide, by decide⟩
  | .int i, h => int_low (of_decide_eq_true h)
  | .str s, h => by
    have h' := List.all_eq_true.mp (show s.all (fun c => decide (c < 128)) = true from h)
    have := reprText_low (s := toS s) (fun c hc => of_decide_eq_true (h' c (by simpa [toS] using hc)))
    refine this.mono ?_
    show 10 * (toS s).length + 2 ≤ 10 * s.length + 2
    simp [toS, Str.length]
  | .list xs, h => by
    obtain ⟨ns, h1, h2⟩ := showns_low (xs := xs) h
    show low _ (listText (PyData.shownAll (toPys xs)))
    unfold listText
    have := low_app (textFrom_low _ 0 "[" ns 1 ⟨by decide, by decide⟩ h1) (show low 1 (("]" : String) : Str) from ⟨by decide, by decide⟩)
    refine this.mono ?_
    show _ ≤ wts xs + 2
    omega
  | .tup xs, h => by
    obtain ⟨ns, h1, h2⟩ := showns_low (xs := xs) h
    show low _ (tupleText (PyData.shownAll (toPys xs)))
    unfold tupleText
    have s : ∀ b : Bool, low 2 ((if b = true then ",)" else ")" : String) : Str) := fun b => by cases b <;> exact ⟨by decide, by decide⟩
    have := low_app (low_app (show low 1 (("(" : String) : Str) from ⟨by decide, by decide⟩) (join_low _ ns h1)) (s ((PyData.shownAll (toPys xs)).length == 1))
    refine this.mono ?_
    show _ ≤ wts xs + 3
    omega
  | .dict ks vs, h => by
    have h' := Bool.and_eq_true_iff.mp (show (okAs ks && okAs vs) = true from h)
    obtain ⟨ns, h1, h2⟩ := showns_low (xs := ks) h'.1
    obtain ⟨ms, h3, h4⟩ := showns_low (xs := vs) h'.2
    show low _ (dictText (PyData.shownKv ((toPys ks).zip (toPys vs))))
    unfold dictText
    have kv : ∀ (a b : List PyData) (ns ms : List Nat), F2 (fun n t => low n t) ns (PyData.shownAll a) → F2 (fun n t => low n t) ms (PyData.shownAll b) →
        ∃ ls : List Nat, F2 (fun n t => low n t) ls (PyData.shownKv (a.zip b)) ∧ ls.sum + 2 * ls.length ≤ ns.sum + 2 * ns.length + (ms.sum + 2 * ms.length) := by
      intro a
      induction a with
      | nil => intro b ns ms _ _; exact ⟨[], .nil, by simp⟩
      | cons x a ih =>
        intro b ns ms h1 h3
        cases b with
        | nil => exact ⟨[], .nil, by simp⟩
        | cons y b =>
          cases h1 with
          | cons h1 h1' =>
            cases h3 with
            | cons h3 h3' =>
              obtain ⟨ls, q1, q2⟩ := ih b _ _ h1' h3'
              refine ⟨_ :: ls, F2.cons (low_app (low_app h1 (show low 2 ((": " : String) : Str) from ⟨by decide, by decide⟩)) h3) q1, ?_⟩
              simp only [List.sum_cons, List.length_cons]; omega
    obtain ⟨ls, q1, q2⟩ := kv _ _ ns ms h1 h3
    have := low_app (low_app (show low 1 (("{" : String) : Str) from ⟨by decide, by decide⟩) (join_low _ ls q1)) (show low 1 (("}" : String) : Str) from ⟨by decide, by decide⟩)
    refine this.mono ?_
    show _ ≤ wts ks + wts vs + 2
    omega
  | .obj _ _ _, h => by cases h
  | .ref _, h => by cases h
  | .fn _, h => by cases h
  | .cls _, h => by cases h
  | .ty _, h => by cases h
  | .scr _, h => by cases h
theorem showns_low : ∀ {xs : List Val}, okAs xs = true → ∃ ns : List Nat, F2 (fun n t => low n t) ns (PyData.shownAll (toPys xs)) ∧ ns.sum + 2 * ns.length = wts xs
  | [], _ => ⟨[], .nil, rfl⟩
  | x :: r, h => by
    have h' := Bool.and_eq_true_iff.mp (show (okA x && okAs r) = true from h)
    obtain ⟨ns, h1, h2⟩ := showns_low (xs := r) h'.2
    refine ⟨wt x :: ns, .cons (shown_low h'.1) h1, ?_⟩
    show _ = wt x + 2 + wts r
    rw [← h2]; simp only [List.sum_cons, List.length_cons]; omega
end
theorem asc_repr {v : Val} (h : okA v = true) (l : wt v ≤ SL) : asc (reprT v) = true := low_asc (shown_low h) l
mutual
theorem okA_few : ∀ {v : Val}, okA v = true → v.few = true
  | .none, _ => rfl
  | .bool _, _ => rfl
  | .int i, h => h
  | .str _, _ => rfl
  | .tup xs, h => okAs_fews (xs := xs) h
  | .list xs, h => okAs_fews (xs := xs) h
  | .dict ks vs, h => by
    have h' := Bool.and_eq_true_iff.mp (show (okAs ks && okAs vs) = true from h)
    exact Bool.and_eq_true_iff.mpr ⟨okAs_fews h'.1, okAs_fews h'.2⟩
  | .obj _ _ _, _ => rfl
  | .ref _, _ => rfl
  | .fn _, _ => rfl
  | .cls _, _ => rfl
  | .ty _, _ => rfl
  | .scr _, _ => rfl
theorem okAs_fews : ∀ {xs : List Val}, okAs xs = true → Val.fews xs = true
  | [], _ => rfl
  | x :: r, h => by
    have h' := Bool.and_eq_true_iff.mp (show (okA x && okAs r) = true from h)
    exact Bool.and_eq_true_iff.mpr ⟨okA_few h'.1, okAs_fews h'.2⟩
end
end M
namespace M
/-! ### what a run comes to -/
def Wp {A : Type} (r : Res A) (Q : A → Heap → Prop) : Prop := match r with
  | .ok a h => Q a h
  | _ => False
@[simp] theorem wp_ok {A : Type} {a : A} {h : Heap} {Q : A → Heap → Prop} : Wp (.ok a h) Q = Q a h := rfl
theorem wp_bind {A B : Type} {r : Res A} {f : A → Heap → Res B} {Q : B → Heap → Prop} : Wp (r.bind f) Q = Wp r (fun a h => Wp (f a h) Q) := by
  cases r <;> rfl
theorem Wp.mono {A : Type} {r : Res A} {Q R : A → Heap → Prop} (w : Wp r Q) (k : ∀ a h, Q a h → R a h) : Wp r R := by
  cases r with
  | ok a h => exact k a h w
  | exc _ _ => exact w.elim
  | stuck => exact w.elim
theorem Wp.of_eq {A : Type} {r : Res A} {a : A} {h : Heap} {Q : A → Heap → Prop} (e : r = .ok a h) (q : Q a h) : Wp r Q := by rw [e]; exact q
theorem Wp.eq {A : Type} {r : Res A} {a : A} {h : Heap} (w : Wp r fun b k => b = a ∧ k = h) : r = .ok a h := by
  cases r with
  | ok b k => obtain ⟨rfl, rfl⟩ := w; rfl
  | exc _ _ => exact w.elim
  | stuck => exact w.elim
/-! ### the evaluator, step by step -/
section
variable (cl : CallFn) (ls : Loc) (h : Heap)
theorem e_lit (v : Val) : evE cl (.lit v) ls h = .ok v h := rfl
theorem e_var (i : Nat) : evE cl (.var i) ls h = match ls[i]? with
  | some (some v) => .ok v h
  | _ => .stuck := rfl
theorem e_prim (p : P) (es : List ME) : evE cl (.prim p es) ls h = (evEs cl es ls h).bind fun vs h => evP p vs h := rfl
theorem e_and (a b : ME) : evE cl (.and a b) ls h = (evE cl a ls h).bind fun v h => (truthR v h).bind fun t h => if t then evE cl b ls h else .ok v h := rfl
theorem e_or (a b : ME) : evE cl (.or a b) ls h = (evE cl a ls h).bind fun v h => (truthR v h).bind fun t h => if t then .ok v h else evE cl b ls h := rfl
theorem e_not (a : ME) : evE cl (.not a) ls h = (evE cl a ls h).bind fun v h => (truthR v h).bind fun t h => .ok (.bool (!t)) h := rfl
theorem e_ite (t a b : ME) : evE cl (.ite t a b) ls h = (evE cl t ls h).bind fun v h => (truthR v h).bind fun t h => if t then evE cl a ls h else evE cl b ls h := rfl
theorem e_chain (p q : P) (a b c : ME) : evE cl (.chain p q a b c) ls h = (evE cl a ls h).bind fun x h => (evE cl b ls h).bind fun y h => (evP p [x, y] h).bind fun v h => (match v with
    | .bool true => (evE cl c ls h).bind fun z h => evP q [y, z] h
    | .bool false => .ok (.bool false) h
    | _ => .stuck) := rfl
theorem e_call (f : Nat) (es kes : List ME) (sel : List (Sum Nat Val)) : evE cl (.call f es kes sel) ls h = (evEs cl es ls h).bind fun vs h => (evEs cl kes ls h).bind fun ws h => match selV sel (vs ++ ws) with
    | some us => cl f us h
    | none => .stuck := rfl
theorem e_comp (m : Bool) (own : List Nat) (t : Tg) (i : MI) (cs : List ME) (e : ME) : evE cl (.comp m own t i cs e) ls h = (evI cl i ls h).bind fun p h => (turns p.2 (fun v h => match setTg t v (killL own ls) with
    | some ls => (evC cl cs ls h).bind fun b h => if b then (evE cl e ls h).bind fun v h => .ok [v] h else .ok [] h
    | none => .stuck) p.1 h).bind fun vs h => okList m vs h := rfl
theorem e_frz (e : ME) : evE cl (.frz e) ls h = (evE cl e ls h).bind fun v h => frzV v h := rfl
theorem e_meth (p : P) (o : ME) (es : List ME) : evE cl (.meth p o es) ls h = (evE cl o ls h).bind fun v h => if recv p v h then (evEs cl es ls h).bind fun vs h => evP p (v :: vs) h else .stuck := rfl
theorem es_nil : evEs cl [] ls h = .ok [] h := rfl
theorem es_cons (e : ME) (r : List ME) : evEs cl (e :: r) ls h = (evE cl e ls h).bind fun v h => (evEs cl r ls h).bind fun vs h => .ok (v :: vs) h := rfl
theorem c_nil : evC cl [] ls h = .ok true h := rfl
theorem c_cons (c : ME) (r : List ME) : evC cl (c :: r) ls h = (evE cl c ls h).bind fun v h => (truthR v h).bind fun t h => if t then evC cl r ls h else .ok false h := rfl
theorem i_val (e : ME) : evI cl (.val e) ls h = (evE cl e ls h).bind fun v h => match itVal h v with
    | some p => .ok p h
    | none => .stuck := rfl
theorem i_range (es : List ME) : evI cl (.range es) ls h = (evEs cl es ls h).bind fun vs h => match itRange vs with
    | some l => .ok (l, none) h
    | none => .stuck := rfl
theorem i_enum (e : ME) : evI cl (.enum e) ls h = (evE cl e ls h).bind fun v h => match isStr v, itVal h v with
    | false, some (l, pin) => .ok (enumL 0 l, pin) h
    | _, _ => .stuck := rfl
theorem i_zip (a b : ME) : evI cl (.zip a b) ls h = (evE cl a ls h).bind fun v h => (evE cl b ls h).bind fun w h => zipR v w h := rfl
theorem s_asg (ts : List TS) (e : ME) : evS cl (.asg ts e) ls h = (evE cl e ls h).bind fun v h => (stoTgs cl v ts ls h).bind fun ls h => .ok (.nx ls) h := rfl
theorem s_par (is : List Nat) (es : List ME) : evS cl (.par is es) ls h = (evEs cl es ls h).bind fun vs h => match setsTg is vs ls with
    | some ls => .ok (.nx ls) h
    | none => .stuck := rfl
theorem s_asg2 (i j : Nat) (e : ME) : evS cl (.asg2 i j e) ls h = (evE cl e ls h).bind fun v h => .ok (.nx ((ls.set i (some v)).set j (some v))) h := rfl
theorem s_aug (i : Nat) (p : P) (e : ME) : evS cl (.aug i p e) ls h = match ls[i]? with
    | some (some x) => (evE cl e ls h).bind fun y h => (augV p x y h).bind fun v h => .ok (.nx (ls.set i (some v))) h
    | _ => .stuck := rfl
theorem s_expr (e : ME) : evS cl (.expr e) ls h = (evE cl e ls h).bind fun _ h => .ok (.nx ls) h := rfl
theorem s_ite (t : ME) (a b : List MS) : evS cl (.ite t a b) ls h = (evT cl t ls h).bind fun c h => if c then evB cl a ls h else evB cl b ls h := rfl
theorem s_wh (t : ME) (b : List MS) : evS cl (.wh t b) ls h = whL (evT cl t) (fun ls h => evB cl b ls h) WL ls h := rfl
theorem s_for (t : Tg) (i : MI) (b : List MS) : evS cl (.for t i b) ls h = (evI cl i ls h).bind fun p h => forL p.2 (fun v ls h => match setTg t v ls with
    | some ls => evB cl b ls h
    | none => .stuck) p.1 ls h := rfl
theorem s_ret (e : ME) : evS cl (.ret e) ls h = (evE cl e ls h).bind fun v h => .ok (.ret v) h := rfl
theorem s_brk : evS cl .brk ls h = .ok (.brk ls) h := rfl
theorem b_nil : evB cl [] ls h = .ok (.nx ls) h := rfl
theorem b_cons (s : MS) (r : List MS) : evB cl (s :: r) ls h = (evS cl s ls h).bind fun f h => match f with
    | .nx ls => evB cl r ls h
    | f => .ok f h := rfl
theorem t_ev (e : ME) : evT cl e ls h = (evE cl e ls h).bind truthR := rfl
theorem st_nil (v : Val) : stoTgs cl v [] ls h = .ok ls h := rfl
theorem st_cons (v : Val) (t : TS) (r : List TS) : stoTgs cl v (t :: r) ls h = (stoTg cl v t ls h).bind fun ls h => stoTgs cl v r ls h := rfl
theorem st_name (v : Val) (i : Nat) : stoTg cl v (.name i) ls h = .ok (ls.set i (some v)) h := rfl
theorem st_tup (v : Val) (is : List Nat) : stoTg cl v (.tup is) ls h = match setTg (.tup is) v ls with
    | some ls => .ok ls h
    | none => .stuck := rfl
theorem st_ix (v : Val) (a i : ME) : stoTg cl v (.ix a i) ls h = (evE cl a ls h).bind fun x h => (evE cl i ls h).bind fun y h => ref1S x h fun n => int1S y fun j => lst1S h n fun xs => match ixN xs.length j with
    | some k => .ok ls (h.set n (.list (xs.set k v)))
    | none => .stuck := rfl
end
/-! ### primitives at values -/
section
variable (h : Heap)
theorem p_add_int (i j : Int) : evP .add [.int i, .int j] h = .ok (.int (i + j)) h := rfl
theorem p_add_str (s t : T) : evP .add [.str s, .str t] h = okT (s ++ t) h := rfl
theorem p_add_tup (s t : List Val) : evP .add [.tup s, .tup t] h = okTup (s ++ t) h := rfl
theorem p_add_list (s t : List Val) : evP .add [.list s, .list t] h = okList false (s ++ t) h := rfl
theorem p_sub (i j : Int) : evP .sub [.int i, .int j] h = .ok (.int (i - j)) h := rfl
theorem p_neg (i : Int) : evP .neg [.int i] h = .ok (.int (-i)) h := rfl
theorem p_mul_int (i j : Int) (k : (small i || small j) = true) : evP .mul [.int i, .int j] h = .ok (.int (i * j)) h := by show (if (small i || small j) = true then _ else _) = _; rw [if_pos k]
theorem p_fdiv (i j : Int) (k : 0 < j) (l : j < 1073741824) : evP .fdiv [.int i, .int j] h = .ok (.int (i / j)) h := by show (if 0 < j ∧ j < 1073741824 then _ else _) = _; rw [if_pos ⟨k, l⟩]
theorem p_mod (i j : Int) (k : 0 < j) : evP .mod [.int i, .int j] h = .ok (.int (i % j)) h := by show (if 0 < j then _ else _) = _; rw [if_pos k]
theorem p_eq_int (i j : Int) : evP .eq [.int i, .int j] h = .ok (.bool (i == j)) h := rfl
theorem p_ne_int (i j : Int) : evP .ne [.int i, .int j] h = .ok (.bool (!(i == j))) h := rfl
theorem p_eq_str (i j : T) : evP .eq [.str i, .str j] h = .ok (.bool (i == j)) h := rfl
theorem p_ne_str (i j : T) : evP .ne [.str i, .str j] h = .ok (.bool (!(i == j))) h := rfl
theorem p_lt (i j : Int) : evP .lt [.int i, .int j] h = .ok (.bool (decide (i < j))) h := rfl
theorem p_gt (i j : Int) : evP .gt [.int i, .int j] h = .ok (.bool (decide (j < i))) h := rfl
theorem p_le (i j : Int) : evP .le [.int i, .int j] h = .ok (.bool (decide (i ≤ j))) h := by
  have e : (!decide (j < i)) = decide (i ≤ j) := by by_cases z : i ≤ j <;> simp [z] <;> omega
  show Res.ok (Val.bool (!decide (j < i))) h = _; rw [e]
theorem p_ge (i j : Int) : evP .ge [.int i, .int j] h = .ok (.bool (decide (j ≤ i))) h := by
  have e : (!decide (i < j)) = decide (j ≤ i) := by by_cases z : j ≤ i <;> simp [z] <;> omega
  show Res.ok (Val.bool (!decide (i < j))) h = _; rw [e]
theorem p_isNone (v : Val) : evP .isNone [v] h = .ok (.bool (isN v)) h := rfl
theorem p_isNotNone (v : Val) : evP .isNotNone [v] h = .ok (.bool (!isN v)) h := rfl
theorem p_isTrue (b : Bool) : evP .isTrue [.bool b] h = .ok (.bool b) h := rfl
theorem p_isFalse (b : Bool) : evP .isFalse [.bool b] h = .ok (.bool (!b)) h := rfl
theorem p_isNotTrue (b : Bool) : evP .isNotTrue [.bool b] h = .ok (.bool (!b)) h := rfl
theorem p_isNotFalse (b : Bool) : evP .isNotFalse [.bool b] h = .ok (.bool b) h := rfl
theorem p_mem_sign (c : Nat) (s : T) : evP .mem [.str [c], .str s] h = .ok (.bool (decide (c ∈ s))) h := rfl
theorem p_notmem_sign (c : Nat) (s : T) : evP .notmem [.str [c], .str s] h = .ok (.bool (!decide (c ∈ s))) h := rfl
theorem p_ix_str (s : T) (i : Int) : evP .ix [.str s, .int i] h = optV ((atI s i).map fun c => .str [c]) h := rfl
theorem p_ix_list (s : List Val) (i : Int) : evP .ix [.list s, .int i] h = optV (atI s i) h := rfl
theorem p_ix_tup (s : List Val) (i : Int) : evP .ix [.tup s, .int i] h = optV (atI s i) h := rfl
theorem p_ix (v : Val) (i : Int) (w : Val) (e : ixV h v i = some w) : evP .ix [v, .int i] h = .ok w h := by show optV (ixV h v i) h = _; rw [e]; rfl
theorem optV_some (v : Val) : optV (some v) h = .ok v h := rfl
theorem p_sl11 (v : Val) (i j : Int) : evP (.sl true true) [v, .int i, .int j] h = slV h v (some i) (some j) := rfl
theorem p_sl10 (v : Val) (i : Int) : evP (.sl true false) [v, .int i] h = slV h v (some i) none := rfl
theorem p_sl01 (v : Val) (j : Int) : evP (.sl false true) [v, .int j] h = slV h v none (some j) := rfl
theorem p_sl00 (v : Val) : evP (.sl false false) [v] h = slV h v none none := rfl
theorem sl_str (s : T) (i j : Option Int) : slV h (.str s) i j = .ok (.str (cut s i j)) h := rfl
theorem sl_list (s : List Val) (i j : Option Int) : slV h (.list s) i j = .ok (.list (cut s i j)) h := rfl
theorem sl_tup (s : List Val) (i j : Option Int) : slV h (.tup s) i j = .ok (.tup (cut s i j)) h := rfl
theorem p_rev_str (m : Bool) (s : T) : evP (.rev m) [.str s] h = .ok (.str s.reverse) h := rfl
theorem p_rev_tup (m : Bool) (s : List Val) : evP (.rev m) [.tup s] h = okTup s.reverse h := rfl
theorem p_rev_list (m : Bool) (s : List Val) : evP (.rev m) [.list s] h = okList m s.reverse h := rfl
theorem p_tup (vs : List Val) : evP .tup vs h = okTup vs h := by unfold evP; rfl
theorem p_list (m : Bool) (vs : List Val) : evP (.list m) vs h = okList m vs h := by unfold evP; rfl
theorem p_len_str (s : T) : evP .len [.str s] h = .ok (.int s.length) h := rfl
theorem p_len_list (s : List Val) : evP .len [.list s] h = .ok (.int s.length) h := rfl
theorem p_len_tup (s : List Val) : evP .len [.tup s] h = .ok (.int s.length) h := rfl
theorem p_min2 (i j : Int) : evP .min2 [.int i, .int j] h = .ok (.int (if j < i then j else i)) h := rfl
theorem p_max2 (i j : Int) : evP .max2 [.int i, .int j] h = .ok (.int (if j > i then j else i)) h := rfl
theorem p_int_bool (b : Bool) : evP .int [.bool b] h = .ok (.int (if b then 1 else 0)) h := rfl
theorem p_int_int (i : Int) : evP .int [.int i] h = .ok (.int i) h := rfl
theorem p_bool (b : Bool) : evP .bool [.bool b] h = .ok (.bool b) h := rfl
theorem p_str_str (s : T) : evP .str [.str s] h = .ok (.str s) h := rfl
theorem p_ord (c : Nat) : evP .ord [.str [c]] h = .ok (.int c) h := rfl
theorem p_listOf_list (m : Bool) (s : List Val) : evP (.listOf m) [.list s] h = okList m s h := rfl
theorem p_listOf_tup (m : Bool) (s : List Val) : evP (.listOf m) [.tup s] h = okList m s h := rfl
theorem p_tupOf_list (s : List Val) : evP .tupOf [.list s] h = okTup s h := rfl
theorem p_tupOf_tup (s : List Val) : evP .tupOf [.tup s] h = okTup s h := rfl
theorem okT_ok (s : T) (l : s.length ≤ SL) : okT s h = .ok (.str s) h := if_pos l
theorem okTup_ok (s : List Val) (l : s.length ≤ SL) : okTup s h = .ok (.tup s) h := if_pos l
theorem okList_ok (s : List Val) (l : s.length ≤ SL) : okList false s h = .ok (.list s) h := by unfold okList; rw [if_pos l]; rfl
theorem okList_mut (s : List Val) (l : s.length ≤ SL) : okList true s h = .ok (.ref h.length) (h ++ [.list s]) := by unfold okList; rw [if_pos l]; rfl
theorem truth_bool (b : Bool) : truthR (.bool b) h = .ok b h := rfl
theorem truth_int (i : Int) : truthR (.int i) h = .ok (decide (i ≠ 0)) h := rfl
theorem truth_str (s : T) : truthR (.str s) h = .ok (!s.isEmpty) h := rfl
theorem truth_list (s : List Val) : truthR (.list s) h = .ok (!s.isEmpty) h := rfl
theorem truth_tup (s : List Val) : truthR (.tup s) h = .ok (!s.isEmpty) h := rfl
theorem if_tt {A : Type} (a b : A) : (if true = true then a else b) = a := rfl
theorem if_ff {A : Type} (a b : A) : (if false = true then a else b) = b := rfl
theorem it_list (s : List Val) : itVal h (.list s) = some (s, none) := rfl
theorem it_tup (s : List Val) : itVal h (.tup s) = some (s, none) := rfl
theorem it_str (s : T) : itVal h (.str s) = some (s.map fun c => .str [c], none) := rfl
theorem sl3_le : (3 : Nat) ≤ SL := by decide
end
theorem wp_if {A : Type} {b : Bool} {x y : Res A} {Q : A → Heap → Prop} (t : b = true → Wp x Q) (f : b = false → Wp y Q) : Wp (if b then x else y) Q := by
  cases b
  · exact f rfl
  · exact t rfl
/-- one statement after the other -/
theorem wp_seq {cl : CallFn} {s : MS} {r : List MS} {ls : Loc} {h : Heap} {Q : Flow → Heap → Prop} (w : Wp (evS cl s ls h) fun f h => match f with
    | .nx ls => Wp (evB cl r ls h) Q
    | f => Q f h) : Wp (evB cl (s :: r) ls h) Q := by
  rw [b_cons, wp_bind]
  refine w.mono fun f h q => ?_
  cases f <;> exact q
theorem wp_one {cl : CallFn} {s : MS} {ls : Loc} {h : Heap} {Q : Flow → Heap → Prop} (w : Wp (evS cl s ls h) Q) : Wp (evB cl [s] ls h) Q := by
  refine wp_seq (w.mono fun f h q => ?_)
  cases f <;> exact q
/-! ### calls -/
theorem okDrop_refl (n : Nat) : ∀ h : Heap, okDrop n h h = true
  | [] => rfl
  | o :: h => by simp [okDrop, okDrop_refl n h]
theorem okDrop_app (n : Nat) : ∀ a b c : Heap, okDrop n (a ++ b) (a ++ (b ++ c)) = true
  | [], [], _ => rfl
  | [], o :: b, c => by simpa [okDrop] using okDrop_app n [] b c
  | o :: a, b, c => by simpa [okDrop] using okDrop_app n a b c
theorem okDrop_more (n : Nat) : ∀ a c : Heap, okDrop n a (a ++ c) = true
  | [], _ => rfl
  | o :: a, c => by simp [okDrop, okDrop_more n a c]
mutual
theorem flat_lt {n : Nat} : ∀ {v : Val}, v.flat = true → v.lt n = true
  | .none, _ => rfl
  | .bool _, _ => rfl
  | .int _, _ => rfl
  | .str _, _ => rfl
  | .tup xs, h => flats_lt (xs := xs) h
  | .list xs, h => flats_lt (xs := xs) h
  | .dict _ _, h => by cases h
  | .obj _ _ _, h => by cases h
  | .ref _, h => by cases h
  | .fn _, _ => rfl
  | .cls _, _ => rfl
  | .ty _, _ => rfl
  | .scr _, h => by cases h
theorem flats_lt {n : Nat} : ∀ {xs : List Val}, Val.flats xs = true → Val.lts n xs = true
  | [], _ => rfl
  | x :: r, h => by
    have h' := Bool.and_eq_true_iff.mp (show (x.flat && Val.flats r) = true from h)
    exact Bool.and_eq_true_iff.mpr ⟨flat_lt h'.1, flats_lt h'.2⟩
end
mutual
theorem okA_lt {n : Nat} : ∀ {v : Val}, okA v = true → v.lt n = true
  | .none, _ => rfl
  | .bool _, _ => rfl
  | .int _, _ => rfl
  | .str _, _ => rfl
  | .tup xs, h => okAs_lt (xs := xs) h
  | .list xs, h => okAs_lt (xs := xs) h
  | .dict ks vs, h => by
    have h' := Bool.and_eq_true_iff.mp (show (okAs ks && okAs vs) = true from h)
    exact Bool.and_eq_true_iff.mpr ⟨okAs_lt h'.1, okAs_lt h'.2⟩
  | .obj _ _ _, h => by cases h
  | .ref _, h => by cases h
  | .fn _, _ => rfl
  | .cls _, _ => rfl
  | .ty _, _ => rfl
  | .scr _, h => by cases h
theorem okAs_lt {n : Nat} : ∀ {xs : List Val}, okAs xs = true → Val.lts n xs = true
  | [], _ => rfl
  | x :: r, h => by
    have h' := Bool.and_eq_true_iff.mp (show (okA x && okAs r) = true from h)
    exact Bool.and_eq_true_iff.mpr ⟨okA_lt h'.1, okAs_lt h'.2⟩
end
/-- handed back is v, nothing that stood is changed -/
def PR (h : Heap) (v : Val) (f : Flow) (h' : Heap) : Prop := f = .ret v ∧ ∃ t, h' = h ++ t
theorem pr_ret {h : Heap} {v w : Val} (e : w = v) : PR h v (.ret w) h := ⟨by rw [e], [], by simp⟩
/-- a def that changes nothing and hands back data -/
theorem run_pure {cl : CallFn} {fn : Fn} {vs : List Val} {h : Heap} {v : Val} (hn : vs.length = fn.n) (hk : fn.keep = false) (hv : v.lt h.length = true)
    (e : Wp (evB cl fn.body (vs.map some ++ List.replicate (fn.slots - fn.n) none) h) (PR h v)) : runF cl fn vs h = .ok v h := by
  unfold runF
  rw [if_pos hn]
  cases z : evB cl fn.body (vs.map some ++ List.replicate (fn.slots - fn.n) none) h with
  | ok f h' =>
    rw [z] at e
    obtain ⟨rfl, t, rfl⟩ := e
    show dropTo fn.keep h v (h ++ t) = _
    unfold dropTo
    rw [hk]
    simp only [Bool.false_eq_true, if_false]
    rw [hv, okDrop_more]
    simp
  | exc _ _ => rw [z] at e; exact e.elim
  | stuck => rw [z] at e; exact e.elim
theorem run_keep {cl : CallFn} {fn : Fn} {vs : List Val} {h : Heap} {Q : Val → Heap → Prop} (hn : vs.length = fn.n) (hk : fn.keep = true)
    (e : Wp (evB cl fn.body (vs.map some ++ List.replicate (fn.slots - fn.n) none) h) fun f h' => ∃ v, f = .ret v ∧ Q v h') : Wp (runF cl fn vs h) Q := by
  unfold runF
  rw [if_pos hn]
  cases z : evB cl fn.body (vs.map some ++ List.replicate (fn.slots - fn.n) none) h with
  | ok f h' =>
    rw [z] at e
    obtain ⟨v, rfl, q⟩ := e
    show Wp (dropTo fn.keep h v h') Q
    unfold dropTo
    rw [hk]
    exact q
  | exc _ _ => rw [z] at e; exact e.elim
  | stuck => rw [z] at e; exact e.elim
/-! ### the deck -/
def deck (c : List Int) (s t : Int) : Heap := [.list (c.map .int), .list [.ref 0, .int s, .int t]]
/-- the heap behind some draws: the deck, and what else was there -/
def Dk (rest : Heap) (h : Heap) : Prop := ∃ c s t, c.length ≤ 63 ∧ h = deck c s t ++ rest
theorem ints_lt {n : Nat} : ∀ c : List Int, Val.lts n (c.map .int) = true
  | [] => rfl
  | _ :: c => by simp [Val.lts, Val.lt, ints_lt c]
theorem okDrop_deck {c c' : List Int} {s t s' t' : Int} {rest l : Heap} : okDrop (deck c s t ++ rest).length (deck c s t ++ rest) (deck c' s' t' ++ (rest ++ l)) = true := by
  simp only [deck, List.cons_append, List.nil_append, okDrop, Obj.lt, ints_lt, Val.lts, Val.lt, Bool.or_true, Bool.true_and, List.length_cons, Bool.and_true, okDrop_more]
  simp
def PD (P : Val → Prop) (rest : Heap) (f : Flow) (h' : Heap) : Prop := ∃ v l, f = .ret v ∧ P v ∧ Dk (rest ++ l) h'
theorem pd_ret {P : Val → Prop} {rest h : Heap} {v : Val} (p : P v) (d : Dk rest h) : PD P rest (.ret v) h := ⟨v, [], rfl, p, by rw [List.append_nil]; exact d⟩
/-- a def that may draw, and hands back data -/
theorem run_draw {cl : CallFn} {fn : Fn} {vs : List Val} {rest : Heap} {h : Heap} {P : Val → Prop} (hd : Dk rest h) (hn : vs.length = fn.n) (hk : fn.keep = false) (hP : ∀ n v, P v → v.lt n = true)
    (e : Wp (evB cl fn.body (vs.map some ++ List.replicate (fn.slots - fn.n) none) h) (PD P rest)) : Wp (runF cl fn vs h) fun v h' => P v ∧ Dk rest h' := by
  obtain ⟨c, s, t, hc, rfl⟩ := hd
  unfold runF
  rw [if_pos hn]
  cases z : evB cl fn.body (vs.map some ++ List.replicate (fn.slots - fn.n) none) (deck c s t ++ rest) with
  | ok f h' =>
    rw [z] at e
    obtain ⟨v, l, rfl, q, c', s', t', hc', rfl⟩ := e
    show Wp (dropTo fn.keep _ v _) _
    unfold dropTo
    rw [hk]
    simp only [Bool.false_eq_true, if_false]
    rw [hP _ v q, okDrop_deck]
    refine ⟨q, c', s', t', hc', ?_⟩
    have e1 : (deck c s t ++ rest).length = (deck c' s' t' ++ rest).length := by simp [deck]
    rw [e1, ← List.append_assoc, List.take_left']
    rfl
  | exc _ _ => rw [z] at e; exact e.elim
  | stuck => rw [z] at e; exact e.elim
/-! ### loops -/
/-- a comprehension whose turns change nothing -/
theorem turns_pure {step : Val → Heap → Res (List Val)} {h : Heap} {pin : Pin} (hp : pinned h pin = true) {g : Val → List Val} : ∀ {xs : List Val}, (∀ x ∈ xs, step x h = .ok (g x) h) → turns pin step xs h = .ok (xs.flatMap g) h
  | [], _ => by simp [turns, hp]
  | x :: r, k => by
    have ih := turns_pure (h := h) hp (g := g) (xs := r) fun y hy => k y (List.mem_cons_of_mem _ hy)
    simp [turns, hp, k x List.mem_cons_self, ih]
theorem flatMap_one {A B : Type} (f : A → B) : ∀ xs : List A, xs.flatMap (fun x => [f x]) = xs.map f
  | [] => rfl
  | x :: r => by simp [flatMap_one f r]
theorem flatMap_filter {A : Type} (f : A → Bool) : ∀ xs : List A, xs.flatMap (fun x => if f x then [x] else []) = xs.filter f
  | [] => rfl
  | x :: r => by
    simp only [List.flatMap_cons, flatMap_filter f r, List.filter_cons]
    split <;> rfl
/-- a comprehension that may draw: one item a turn -/
theorem turns_draw {step : Val → Heap → Res (List Val)} {I : Heap → Prop} {R : Val → Val → Prop} : ∀ {xs : List Val} {h : Heap}, I h → (∀ x ∈ xs, ∀ h, I h → Wp (step x h) fun l h' => (∃ y, l = [y] ∧ R x y) ∧ I h') →
    Wp (turns none step xs h) fun l h' => F2 R xs l ∧ I h'
  | [], h, i, _ => ⟨.nil, i⟩
  | x :: r, h, i, k => by
    unfold turns
    rw [if_pos (show pinned h none = true from rfl), wp_bind]
    refine (k x List.mem_cons_self h i).mono fun l h1 q => ?_
    obtain ⟨⟨y, rfl, ry⟩, i1⟩ := q
    rw [wp_bind]
    refine (turns_draw i1 fun z hz => k z (List.mem_cons_of_mem _ hz)).mono fun l2 h2 q2 => ?_
    exact ⟨.cons ry q2.1, q2.2⟩
theorem F2.len {A B : Type} {R : A → B → Prop} : ∀ {as : List A} {bs : List B}, F2 R as bs → as.length = bs.length
  | _, _, .nil => rfl
  | _, _, .cons _ t => congrArg Nat.succ t.len
theorem F2.mem {A B : Type} {R : A → B → Prop} : ∀ {as : List A} {bs : List B}, F2 R as bs → ∀ b ∈ bs, ∃ a ∈ as, R a b
  | _, _, .nil, b, h => by cases h
  | _, _, .cons h1 t, b, h => by
    rcases List.mem_cons.mp h with rfl | h
    · exact ⟨_, List.mem_cons_self, h1⟩
    · obtain ⟨a, m, q⟩ := t.mem b h
      exact ⟨a, List.mem_cons_of_mem _ m, q⟩
theorem F2.mono {A B : Type} {R S : A → B → Prop} (k : ∀ a b, R a b → S a b) : ∀ {as : List A} {bs : List B}, F2 R as bs → F2 S as bs
  | _, _, .nil => .nil
  | _, _, .cons h t => .cons (k _ _ h) (t.mono k)
/-- a for loop: the invariant goes on, or the def is left -/
theorem for_inv {pin : Pin} {step : Val → Loc → Heap → Res Flow} {I : Loc → Heap → Prop} {Q : Flow → Heap → Prop} (hp : ∀ ls h, I ls h → pinned h pin = true) : ∀ {xs : List Val} {ls : Loc} {h : Heap}, I ls h →
    (∀ x ∈ xs, ∀ ls h, I ls h → Wp (step x ls h) fun f h' => match f with
      | .nx ls => I ls h'
      | .ret v => Q (.ret v) h'
      | .brk ls => Q (.nx ls) h') → (∀ ls h, I ls h → Q (.nx ls) h) → Wp (forL pin step xs ls h) Q
  | [], ls, h, i, _, d => by
    unfold forL
    rw [if_pos (hp ls h i)]
    exact d ls h i
  | x :: r, ls, h, i, k, d => by
    unfold forL
    rw [if_pos (hp ls h i), wp_bind]
    refine (k x List.mem_cons_self ls h i).mono fun f h1 q => ?_
    cases f with
    | nx ls1 => exact for_inv hp q (fun y hy => k y (List.mem_cons_of_mem _ hy)) d
    | ret v => exact q
    | brk ls1 => exact q
theorem rangeL_mem {lo : Int} : ∀ {n : Nat} {v : Val}, v ∈ rangeL lo n → ∃ i : Int, v = .int i ∧ lo ≤ i ∧ i < lo + n
  | 0, v, h => by cases h
  | n + 1, v, h => by
    rcases List.mem_cons.mp (show v ∈ Val.int lo :: rangeL (lo + 1) n from h) with rfl | h
    · exact ⟨lo, rfl, Int.le_refl _, by omega⟩
    · obtain ⟨i, e, h1, h2⟩ := rangeL_mem h
      exact ⟨i, e, by omega, by omega⟩
theorem rangeL_len {lo : Int} : ∀ n : Nat, (rangeL lo n).length = n
  | 0 => rfl
  | n + 1 => congrArg Nat.succ (rangeL_len n)
end M
namespace M
local macro_rules | `(tactic| decreasing_trivial) => `(tactic| simp only [wp_bind, wp_ok, bind_ok, e_lit, e_var, e_prim, e_and, e_or, e_not, e_ite, e_chain, e_call, e_comp, e_frz, e_meth, es_nil, es_cons, c_nil, c_cons, i_val, i_range, i_enum, i_zip, s_asg, s_aug, s_expr, s_ite, s_wh, s_for, s_ret, s_brk, t_ev, st_nil, st_cons, st_name, st_tup, st_ix,
  List.getElem?_cons_zero, List.getElem?_cons_succ, List.set_cons_zero, List.set_cons_succ, List.map_cons, List.map_nil, List.cons_append, List.nil_append, List.append_nil, List.replicate_succ, List.replicate_zero,
  p_add_int, p_add_str, p_add_tup, p_add_list, p_sub, p_neg, p_eq_int, p_ne_int, p_eq_str, p_ne_str, p_lt, p_gt, p_le, p_ge, p_isNone, p_isNotNone, p_isTrue, p_isFalse, p_isNotTrue, p_isNotFalse, p_mem_sign, p_notmem_sign, p_ix_str, p_ix_list, p_ix_tup, optV_some, p_sl11, p_sl10, p_sl01, p_sl00, sl_str, sl_list, sl_tup, p_rev_str, p_rev_list, p_tup, p_list, p_len_str, p_len_list, p_len_tup, p_min2, p_max2, p_int_bool, p_int_int, p_bool, p_str_str, p_ord, p_listOf_list, p_listOf_tup, p_tupOf_list, p_tupOf_tup, truth_bool, truth_int, truth_str, truth_list, truth_tup, if_tt, if_ff, if_true, if_false, it_list, it_tup, it_str])
def bDraw : List MS := [.asg [.ix (.var 0) (.lit (.int 2))] (.prim .add [(.prim .ix [(.var 0), (.lit (.int 2))]), (.lit (.int 1))]), .asg [.name 2] (.prim .ix [(.var 0), (.lit (.int 1))]), .ite (.prim .ne [(.prim .ix [(.var 0), (.lit (.int 0))]), (.prim (.list false) [])]) [.asg [.name 2] (.meth .pop (.prim .ix [(.var 0), (.lit (.int 0))]) []), .ite (.prim .ge [(.var 2), (.prim .pow [(.lit (.int 10)), (.lit (.int 18))])]) [.expr (.meth .append (.prim .ix [(.var 0), (.lit (.int 0))]) [(.prim .fdiv [(.var 2), (.var 1)])]), .ret (.prim .mod [(.var 2), (.var 1)])] []] [], .asg [.name 3] (.prim .mod [(.prim .mul [(.prim .add [(.prim .add [(.prim .mod [(.var 2), (.lit (.int 2147483629))]), (.prim .mul [(.lit (.int 65537)), (.prim .ix [(.var 0), (.lit (.int 2))])])]), (.lit (.int 3))]), (.lit (.int 48271))]), (.lit (.int 2147483647))]), .asg [.name 3] (.prim .mod [(.prim .add [(.prim .add [(.prim .mul [(.var 3), (.var 3)]), (.prim .mul [(.lit (.int 69621)), (.prim .ix [(.var 0), (.lit (.int 2))])])]), (.lit (.int 17))]), (.lit (.int 2147483587))]), .ret (.prim .mod [(.prim .fdiv [(.prim .mod [(.prim .add [(.prim .mul [(.var 3), (.var 3)]), (.lit (.int 39373))]), (.lit (.int 2147483563))]), (.lit (.int 64))]), (.var 1)])]
theorem flats_ints : ∀ c : List Int, Val.flats (c.map .int) = true
  | [] => rfl
  | _ :: c => by simp [Val.flats, Val.flat, flats_ints c]
theorem deeps_ints : ∀ c : List Int, Val.deeps (c.map .int) = 0
  | [] => rfl
  | _ :: c => by simp [Val.deeps, Val.deep, deeps_ints c]
section
variable (c : List Int) (s t : Int) (rest : Heap)
theorem deck_ix0 : evP .ix [.ref 1, .int 0] (deck c s t ++ rest) = .ok (.ref 0) (deck c s t ++ rest) := rfl
theorem deck_ix1 : evP .ix [.ref 1, .int 1] (deck c s t ++ rest) = .ok (.int s) (deck c s t ++ rest) := rfl
theorem deck_ix2 : evP .ix [.ref 1, .int 2] (deck c s t ++ rest) = .ok (.int t) (deck c s t ++ rest) := rfl
end
/-- what a draw hands on to the last steps -/
theorem draw_end {cl : CallFn} {c : List Int} {s t m x : Int} {rest : Heap} (u : Option Val) (hm : 0 < m) (hc : c.length ≤ 63) :
    Wp (evB cl (bDraw.drop 3) [some (.ref 1), some (.int m), some (.int x), u] (deck c s t ++ rest)) fun f h' => ∃ v l, f = .ret v ∧ (∃ r, v = .int r ∧ 0 ≤ r ∧ r < m) ∧ Dk (rest ++ l) h' := by
  have b1 : ∀ z : Int, (small (z % 2147483647) || small (z % 2147483647)) = true := fun z => by rw [Bool.or_self, small_iff]; omega
  have b2 : ∀ z : Int, (small (z % 2147483587) || small (z % 2147483587)) = true := fun z => by rw [Bool.or_self, small_iff]; omega
  have b3 : ∀ z : Int, (small 65537 || small z) = true := fun z => rfl
  have b4 : ∀ z : Int, (small z || small 48271) = true := fun z => Bool.or_true _
  have b5 : ∀ z : Int, (small 69621 || small z) = true := fun z => rfl
  have m1 : ∀ (z : Int) h, evP .mod [.int z, .int 2147483629] h = .ok (.int (z % 2147483629)) h := fun z h => rfl
  have m2 : ∀ (z : Int) h, evP .mod [.int z, .int 2147483647] h = .ok (.int (z % 2147483647)) h := fun z h => rfl
  have m3 : ∀ (z : Int) h, evP .mod [.int z, .int 2147483587] h = .ok (.int (z % 2147483587)) h := fun z h => rfl
  have m4 : ∀ (z : Int) h, evP .mod [.int z, .int 2147483563] h = .ok (.int (z % 2147483563)) h := fun z h => rfl
  have m5 : ∀ (z : Int) h, evP .fdiv [.int z, .int 64] h = .ok (.int (z / 64)) h := fun z h => rfl
  refine wp_seq ?_
  decreasing_trivial
  simp only [deck_ix2, m1, m2, bind_ok, wp_ok, p_mul_int _ _ _ (b3 _), p_mul_int _ _ _ (b4 _), p_add_int]
  refine wp_seq ?_
  decreasing_trivial
  simp only [deck_ix2, m3, bind_ok, wp_ok, p_mul_int _ _ _ (b1 _), p_mul_int _ _ _ (b5 _), p_add_int]
  refine wp_one ?_
  decreasing_trivial
  simp only [m4, m5, p_mod _ _ _ hm, bind_ok, wp_ok, p_mul_int _ _ _ (b2 _), p_add_int]
  exact ⟨_, [], rfl, ⟨_, rfl, Int.emod_nonneg _ (by omega), Int.emod_lt_of_pos _ hm⟩, c, s, t, hc, by simp⟩
theorem draw_ok {cl : CallFn} {m : Int} {rest h : Heap} (hm : 0 < m) (hm2 : m < 1073741824) (hd : Dk rest h) :
    Wp (runF cl ⟨2, 4, false, bDraw⟩ [.ref 1, .int m] h) fun v h' => (∃ r, v = .int r ∧ 0 ≤ r ∧ r < m) ∧ Dk rest h' := by
  refine run_draw hd rfl rfl (by rintro n v ⟨r, rfl, _⟩; rfl) ?_
  obtain ⟨c, s, t, hc, rfl⟩ := hd
  show Wp (evB cl bDraw [some (.ref 1), some (.int m), none, none] (deck c s t ++ rest)) _
  have e : bDraw = .asg [.ix (.var 0) (.lit (.int 2))] (.prim .add [(.prim .ix [(.var 0), (.lit (.int 2))]), (.lit (.int 1))]) :: .asg [.name 2] (.prim .ix [(.var 0), (.lit (.int 1))]) :: .ite (.prim .ne [(.prim .ix [(.var 0), (.lit (.int 0))]), (.prim (.list false) [])]) [.asg [.name 2] (.meth .pop (.prim .ix [(.var 0), (.lit (.int 0))]) []), .ite (.prim .ge [(.var 2), (.prim .pow [(.lit (.int 10)), (.lit (.int 18))])]) [.expr (.meth .append (.prim .ix [(.var 0), (.lit (.int 0))]) [(.prim .fdiv [(.var 2), (.var 1)])]), .ret (.prim .mod [(.var 2), (.var 1)])] []] [] :: bDraw.drop 3 := rfl
  rw [e]
  have sto : stoTg cl (.int (t + 1)) (.ix (.var 0) (.lit (.int 2))) [some (.ref 1), some (.int m), none, none] (deck c s t ++ rest) = .ok [some (.ref 1), some (.int m), none, none] (deck c s (t + 1) ++ rest) := rfl
  refine wp_seq ?_
  simp only [s_asg, e_prim, es_cons, es_nil, e_var, e_lit, List.getElem?_cons_zero, bind_ok, wp_bind, wp_ok, deck_ix2, p_add_int, st_cons, st_nil, sto]
  refine wp_seq ?_
  decreasing_trivial
  simp only [deck_ix1, bind_ok, wp_ok, wp_bind]
  refine wp_seq ?_
  have eq0 : evP .ne [.ref 0, .list []] (deck c s (t + 1) ++ rest) = .ok (.bool (!c.isEmpty)) (deck c s (t + 1) ++ rest) := by
    have : eqV (deck c s (t + 1) ++ rest) (.ref 0) (.list []) = some c.isEmpty := by
      have : dr (deck c s (t + 1) ++ rest) (.ref 0) = some (.list (c.map .int)) := rfl
      unfold eqV
      rw [this]
      simp only [dr, Val.flat, flats_ints, Val.flats, Val.deep, deeps_ints, Val.deeps]
      cases c with
      | nil => rfl
      | cons a r => rfl
    show optB ((eqV (deck c s (t + 1) ++ rest) (.ref 0) (.list [])).map (!·)) _ = _
    rw [this]; rfl
  decreasing_trivial
  simp only [deck_ix0, wp_bind, wp_ok, bind_ok, okList_ok _ [] (Nat.zero_le _), eq0, truth_bool]
  rcases List.eq_nil_or_concat c with rfl | ⟨c0, x, rfl⟩
  · simp only [List.isEmpty_nil, Bool.not_true, if_ff, b_nil, wp_ok]
    exact draw_end none hm hc
  · have hc0 : c0.length + 1 ≤ 63 := by simpa using hc
    have ne : (c0.concat x).isEmpty = false := by simp
    have rc : recv .pop (.ref 0) (deck (c0.concat x) s (t + 1) ++ rest) = true := rfl
    have pp : evP .pop [.ref 0] (deck (c0.concat x) s (t + 1) ++ rest) = .ok (.int x) (deck c0 s (t + 1) ++ rest) := by
      have : lst1 (deck (c0.concat x) s (t + 1) ++ rest) 0 = fun f => f ((c0.concat x).map .int) := rfl
      simp only [evP, ref1, this]
      simp [deck]
    simp only [ne, Bool.not_false, if_tt]
    refine wp_seq ?_
    decreasing_trivial
    simp only [deck_ix0, wp_bind, wp_ok, bind_ok, rc, if_tt, pp]
    have pw : ∀ h : Heap, evP .pow [.int 10, .int 18] h = .ok (.int 1000000000000000000) h := fun h => rfl
    refine wp_one ?_
    decreasing_trivial
    simp only [pw, wp_ok, bind_ok, wp_bind, p_ge, truth_bool]
    refine wp_if (fun hx => ?_) fun hx => ?_
    · have rc2 : recv .append (.ref 0) (deck c0 s (t + 1) ++ rest) = true := rfl
      have ap : evP .append [.ref 0, .int (x / m)] (deck c0 s (t + 1) ++ rest) = .ok .none (deck (c0 ++ [x / m]) s (t + 1) ++ rest) := by
        have : lst1 (deck c0 s (t + 1) ++ rest) 0 = fun f => f (c0.map .int) := rfl
        simp only [evP, ref1, this]
        rw [if_pos (by rw [List.length_map]; exact Nat.lt_of_lt_of_le hc0 (by decide))]
        simp [deck]
      refine wp_seq ?_
      decreasing_trivial
      simp only [deck_ix0, wp_bind, wp_ok, bind_ok, p_fdiv _ _ _ hm hm2, rc2, if_tt, ap]
      refine wp_one ?_
      decreasing_trivial
      simp only [p_mod _ _ _ hm, wp_ok, bind_ok]
      exact ⟨_, [], rfl, ⟨_, rfl, Int.emod_nonneg _ (by omega), Int.emod_lt_of_pos _ hm⟩, c0 ++ [x / m], s, t + 1, by simpa using hc0, by simp⟩
    · simp only [b_nil, wp_ok]
      exact draw_end (x := x) none hm (by omega)
def bPick : List MS := [.ret (.prim .ix [(.var 1), (.call 2 [(.var 0), (.prim .len [(.var 1)])] [] [.inl 0, .inl 1])])]
def bDeck : List MS := [.ret (.prim (.list true) [(.prim (.rev true) [(.prim (.listOf false) [(.prim (.sl false true) [(.var 0), (.lit (.int 63))])])]), (.prim .add [(.prim .sum [(.comp false [1] (.name 1) (.val (.prim (.sl false true) [(.var 0), (.lit (.int 63))])) [] (.prim .mod [(.var 1), (.lit (.int 1000003))]))]), (.prim .mul [(.lit (.int 7919)), (.prim .len [(.prim (.sl false true) [(.var 0), (.lit (.int 63))])])])]), (.lit (.int 0))])]
theorem atI_nat {A : Type} {xs : List A} {i : Int} (h0 : 0 ≤ i) (h1 : i < xs.length) : atI xs i = xs[i.toNat]? := by
  unfold atI ixN
  rw [if_pos h0, if_pos h1]
  rfl
/-- the deck is made -/
theorem deck_ok {cl : CallFn} {ns : List Int} (hn : ns.length ≤ 63) : Wp (runF cl ⟨1, 2, true, bDeck⟩ [.scr (ns.map .int)] []) fun v h => v = .ref 1 ∧ Dk [] h := by
  refine run_keep rfl rfl ?_
  show Wp (evB cl bDeck [some (.scr (ns.map .int)), none] []) _
  have hcut : ∀ h : Heap, slV h (.scr (ns.map .int)) none (some 63) = .ok (.list (ns.map .int)) h := fun h => by
    have e : cut (ns.map Val.int) none (some 63) = ns.map .int := by
      unfold cut sIx
      simp only [List.drop_zero, List.length_map]
      rw [if_neg (by decide), List.take_of_length_le]
      simp only [List.length_map]
      show _ ≤ min 63 ns.length - 0
      omega
    show Res.ok (Val.list (cut (ns.map Val.int) none (some 63))) h = _
    rw [e]
  have hl : (ns.map Val.int).length ≤ SL := by rw [List.length_map]; exact Nat.le_trans hn (by decide)
  have hr : ∀ h : Heap, okList true (ns.map Val.int).reverse h = .ok (.ref h.length) (h ++ [.list (ns.reverse.map .int)]) := fun h => by
    rw [okList_mut _ _ (by rw [List.length_reverse]; exact hl), List.map_reverse]
  have hs : ∀ h : Heap, evP .sum [.list (ns.map fun i => Val.int (i % 1000003))] h = .ok (.int (ns.map (· % 1000003)).sum) h := fun h => by
    have : intsOf (ns.map fun i => Val.int (i % 1000003)) = some (ns.map (· % 1000003)) := by
      clear hn hcut hl hr
      induction ns with
      | nil => rfl
      | cons a r ih => simp only [List.map_cons, intsOf, ih, Option.map_some]
    show optV (((some (ns.map fun i => Val.int (i % 1000003))).bind intsOf).map fun is => .int is.sum) h = _
    simp only [Option.bind_some, this, Option.map_some, optV_some]
  refine wp_one ?_
  decreasing_trivial
  simp only [hcut, wp_ok, bind_ok, okList_ok _ _ hl, hr, List.length_nil, List.nil_append, killL, List.foldl, it_list, p_listOf_list, p_rev_list]
  decreasing_trivial
  rw [turns_pure (g := fun v => match v with
    | .int i => [.int (i % 1000003)]
    | _ => []) rfl fun x hx => by
      obtain ⟨i, _, rfl⟩ := List.mem_map.mp hx
      simp only [setTg, List.set_cons_zero, List.set_cons_succ, List.foldl_cons, List.foldl_nil]
      decreasing_trivial
      simp only [p_mod _ _ _ (show (0 : Int) < 1000003 by decide), bind_ok]]
  have fm : (ns.map Val.int).flatMap (fun v => match v with
    | .int i => [Val.int (i % 1000003)]
    | _ => []) = ns.map fun i => Val.int (i % 1000003) := by
    rw [List.flatMap_map]
    exact flatMap_one _ ns
  have hl2 : (ns.map fun i => Val.int (i % 1000003)).length ≤ SL := by rw [List.length_map]; exact Nat.le_trans hn (by decide)
  simp only [wp_ok, bind_ok, fm, okList_ok _ _ hl2, hs, hcut, p_len_list, p_mul_int _ 7919 _ rfl, p_add_int]
  rw [okList_mut _ _ (by show 3 ≤ SL; decide)]
  simp only [wp_ok, bind_ok]
  exact ⟨_, rfl, rfl, ns.reverse, _, 0, by simpa using hn, rfl⟩
end M
namespace M
open PySem
theorem SL_val : SL = 16777216 := Nat.le_antisymm (Nat.le_refl _) (Nat.le_refl _)
theorem call_succ {G : Tab} {k i : Nat} {fn : Fn} {vs : List Val} {h : Heap} (e : G i = some fn) : callN G (k + 1) i vs h = runF (callN G k) fn vs h := by
  show (match G i with
    | some fn => runF (callN G k) fn vs h
    | none => .stuck) = _
  rw [e]
def notS (v : Val) : Prop := okA v = true ∧ ∀ s, v ≠ .str s
theorem p_isi0 {v : Val} (n : notS v) (h : Heap) : evP (.isi [0]) [v] h = .ok (.bool false) h := by
  obtain ⟨a, b⟩ := n
  cases v <;> first | rfl | exact absurd rfl (b _) | cases a
theorem p_isi0s (s : T) (h : Heap) : evP (.isi [0]) [.str s] h = .ok (.bool true) h := rfl
theorem sIx_nat {n d : Nat} {v : Int} (h : 0 ≤ v) : sIx n d (some v) = min v.toNat n := by unfold sIx; simp only; rw [if_neg (by omega)]
theorem sIx_neg {n d : Nat} {v : Int} (h : v < 0) : sIx n d (some v) = (v + (n : Int)).toNat := by unfold sIx; simp only; rw [if_pos h]
theorem sIx_none {n d : Nat} : sIx n d none = d := rfl
theorem atI_zero (c : Nat) (r : T) : atI (c :: r) 0 = some c := by
  unfold atI ixN
  simp
theorem atI_last {s : T} {n : Nat} (h : s.length = n + 1) : atI s (-1) = s[n]? := by
  unfold atI ixN
  have e : ((-1 : Int) + ((n + 1 : Nat) : Int)).toNat = n := by omega
  rw [if_neg (by decide), if_pos (by rw [h]; omega), h, e]
  rfl
theorem mem_dec {L : List Nat} {p : Nat → Bool} (h : ∀ c, c < 128 → decide (c ∈ L) = p c) (hL : ∀ x ∈ L, x < 128) (hp : ∀ c, 128 ≤ c → p c = false) (c : Nat) : decide (c ∈ L) = p c := by
  by_cases z : c < 128
  · exact h c z
  · rw [hp c (by omega), decide_eq_false_iff_not]
    exact fun m => z (hL c m)
/-! ### texts -/
def joinT (sep : T) : List T → T
  | [] => []
  | [p] => p
  | p :: q :: r => p ++ (sep ++ joinT sep (q :: r))
theorem join_toS (sep : T) : ∀ ss : List T, (PySem.Txt.join (toS sep) (ss.map toS)) = toS (joinT sep ss) := by
  intro ss
  rw [TL.join_eq]
  induction ss with
  | nil => rfl
  | cons p r ih =>
    cases r with
    | nil => rfl
    | cons q r =>
      show toS p ++ toS sep ++ Str.join (toS sep) ((q :: r).map toS) = toS (p ++ (sep ++ joinT sep (q :: r)))
      rw [ih]
      apply Str.ext'
      simp [toS, Str.cps_append]
def ascL (s : T) : Bool := s.all fun c => decide (c < 128)
theorem asc_of {s : T} (h : ascL s = true) (l : s.length ≤ SL) : asc s = true := by
  unfold asc
  rw [Bool.and_eq_true]
  exact ⟨h, decide_eq_true l⟩
theorem ascL_app {s t : T} (h : ascL s = true) (k : ascL t = true) : ascL (s ++ t) = true := by
  unfold ascL at *
  rw [List.all_append, h, k]; rfl
theorem ascL_join {sep : T} (h : ascL sep = true) : ∀ {ss : List T}, (∀ s ∈ ss, ascL s = true) → ascL (joinT sep ss) = true
  | [], _ => rfl
  | [p], k => k p (by simp)
  | p :: q :: r, k => ascL_app (k p (by simp)) (ascL_app h (ascL_join h fun s hs => k s (List.mem_cons_of_mem _ hs)))
theorem joinT_len {sep : T} : ∀ ss : List T, (joinT sep ss).length ≤ (ss.map (·.length)).sum + ss.length * sep.length
  | [] => Nat.zero_le _
  | [p] => by simp [joinT]
  | p :: q :: r => by
    have ih := joinT_len (sep := sep) (q :: r)
    show (p ++ (sep ++ joinT sep (q :: r))).length ≤ _
    rw [List.length_append, List.length_append]
    have e : (p :: q :: r).length * sep.length = sep.length + (q :: r).length * sep.length := by
      rw [List.length_cons, Nat.add_mul, Nat.one_mul, Nat.add_comm]
    rw [e, List.map_cons, List.sum_cons]
    omega
theorem joinT_nil (ss : List T) : joinT [] ss = ss.flatten := by
  induction ss with
  | nil => rfl
  | cons p r ih =>
    cases r with
    | nil => simp [joinT]
    | cons q r => simp only [joinT, List.nil_append, ih, List.flatten_cons]
theorem textsOf_map : ∀ ss : List T, textsOf (ss.map Val.str) = some ss
  | [] => rfl
  | s :: r => by simp only [List.map_cons, textsOf, textsOf_map r, Option.map_some]
theorem toS_cpsL (s : T) : (toS s).cps.toList = s := by simp [toS]
theorem strR_ok {s : T} (h : Heap) (k : ascL s = true) (l : s.length ≤ SL) : strR (toS s) h = .ok (.str s) h := by
  unfold strR
  rw [toS_cpsL, if_pos (asc_of k l)]
theorem p_join {sep : T} {ss : List T} (h : Heap) (k : ascL (joinT sep ss) = true) (l : (ss.map (·.length)).sum + ss.length * sep.length ≤ SL) : evP .join [.str sep, .list (ss.map .str)] h = .ok (.str (joinT sep ss)) h := by
  have e : evP .join [.str sep, .list (ss.map .str)] h = (match (some (ss.map Val.str)).bind textsOf with
    | some ss => if (ss.map (·.length)).sum + ss.length * sep.length ≤ SL then strR (PySem.Txt.join (toS sep) (ss.map toS)) h else .stuck
    | none => .stuck) := rfl
  rw [e, Option.bind_some, textsOf_map]
  simp only
  rw [if_pos l, join_toS, strR_ok h k (Nat.le_trans (joinT_len ss) l)]
def upC (c : Nat) : Nat := if 97 ≤ c ∧ c ≤ 122 then c - 32 else c
theorem upper_toS : ∀ {s : T}, ascL s = true → PySem.Txt.upper (toS s) = toS (s.map upC)
  | [], _ => by decide +kernel
  | c :: r, h => by
    have h' := Bool.and_eq_true_iff.mp (show (decide (c < 128) && ascL r) = true from h)
    have e : toS (c :: r) = (⟨#[c]⟩ : Str) ++ toS r := by
      apply Str.ext'
      simp [toS, Str.cps_append]
    rw [e, PySem.W.KOpn.upper_app, upper_toS h'.2, PySem.W.KOpn.upper_one (of_decide_eq_true h'.1)]
    apply Str.ext'
    simp [toS, Str.cps_append, upC]
theorem ascL_up {s : T} (h : ascL s = true) : ascL (s.map upC) = true := by
  unfold ascL at *
  rw [List.all_map]
  rw [List.all_eq_true] at *
  intro c hc
  have := of_decide_eq_true (h c hc)
  apply decide_eq_true
  show upC c < 128
  unfold upC
  split <;> omega
theorem p_upper {s : T} (h : Heap) (k : ascL s = true) (l : s.length ≤ 5000000) : evP .upper [.str s] h = .ok (.str (s.map upC)) h := by
  have e : evP .upper [.str s] h = if s.length ≤ 5000000 then strR (PySem.Txt.upper (toS s)) h else .stuck := rfl
  rw [e, if_pos l, upper_toS k, strR_ok h (ascL_up k) (by rw [List.length_map]; exact Nat.le_trans l (by decide))]
mutual
theorem flat_dat : ∀ {v : Val}, v.flat = true → v.dat = true
  | .none, _ => rfl
  | .bool _, _ => rfl
  | .int _, _ => rfl
  | .str _, _ => rfl
  | .tup xs, h => flats_dats (vs := xs) h
  | .list xs, h => flats_dats (vs := xs) h
  | .dict _ _, h => by cases h
  | .obj _ _ _, h => by cases h
  | .ref _, h => by cases h
  | .fn _, h => by cases h
  | .cls _, h => by cases h
  | .ty _, h => by cases h
  | .scr _, h => by cases h
theorem flats_dats : ∀ {vs : List Val}, Val.flats vs = true → Val.dats vs = true
  | [], _ => rfl
  | v :: r, h => by
    have h' := Bool.and_eq_true_iff.mp h
    exact Bool.and_eq_true_iff.mpr ⟨flat_dat h'.1, flats_dats h'.2⟩
end
theorem p_repr {v : Val} (h : Heap) (a : okA v = true) (f : v.dat = true) (d : v.deep ≤ 64) (l : wt v ≤ SL) : evP .repr [v] h = .ok (.str (reprT v)) h := by
  have e : dr h v = some v := by
    cases v <;> first | rfl | cases a
  show reprV h v = _
  unfold reprV
  rw [e]
  simp only
  rw [f, okA_few a, asc_repr a l, if_pos (by simp [d])]
theorem p_str_int {i : Int} (h : Heap) (k : i.natAbs < 2 ^ 1000) : evP .str [.int i] h = .ok (.str ((toString i : String) : Str).cps.toList) h := by
  have e : evP .str [.int i] h = if i.natAbs < 2 ^ 1000 then strR (toString i) h else .stuck := rfl
  rw [e, if_pos k]
  unfold strR
  rw [if_pos (low_asc (int_low k) (by decide))]
theorem p_all {A : Type} (f : A → Bool) (xs : List A) (h : Heap) : evP .all [.list (xs.map fun x => .bool (f x))] h = .ok (.bool (xs.all f)) h := by
  have e : boolsOf (xs.map fun x => Val.bool (f x)) = some (xs.map f) := by
    induction xs with
    | nil => rfl
    | cons x r ih => simp only [List.map_cons, boolsOf, ih, Option.map_some]
  show optB (((some (xs.map fun x => Val.bool (f x))).bind boolsOf).map fun bs => bs.all id) h = _
  simp only [Option.bind_some, e, Option.map_some, optB, List.all_map]
  rfl
theorem p_any {A : Type} (f : A → Bool) (xs : List A) (h : Heap) : evP .any [.list (xs.map fun x => .bool (f x))] h = .ok (.bool (xs.any f)) h := by
  have e : boolsOf (xs.map fun x => Val.bool (f x)) = some (xs.map f) := by
    induction xs with
    | nil => rfl
    | cons x r ih => simp only [List.map_cons, boolsOf, ih, Option.map_some]
  show optB (((some (xs.map fun x => Val.bool (f x))).bind boolsOf).map fun bs => bs.any id) h = _
  simp only [Option.bind_some, e, Option.map_some, optB, List.any_map]
  rfl
/-! ### == and in, of data -/
theorem p_eq {a b : Val} (h : Heap) (ha : a.flat = true) (hb : b.flat = true) (da : a.deep ≤ 64) (db : b.deep ≤ 64) : evP .eq [a, b] h = .ok (.bool (eqv a b)) h := by
  have ea : dr h a = some a := by cases a <;> first | rfl | cases ha
  have eb : dr h b = some b := by cases b <;> first | rfl | cases hb
  show optB (eqV h a b) h = _
  unfold eqV
  rw [ea, eb]
  simp only [ha, hb, da, db, decide_true, Bool.and_self, if_true, optB]
theorem p_ne {a b : Val} (h : Heap) (ha : a.flat = true) (hb : b.flat = true) (da : a.deep ≤ 64) (db : b.deep ≤ 64) : evP .ne [a, b] h = .ok (.bool (!eqv a b)) h := by
  have ea : dr h a = some a := by cases a <;> first | rfl | cases ha
  have eb : dr h b = some b := by cases b <;> first | rfl | cases hb
  show optB ((eqV h a b).map (!·)) h = _
  unfold eqV
  rw [ea, eb]
  simp only [ha, hb, da, db, decide_true, Bool.and_self, if_true, optB, Option.map_some]
theorem eqvs_nil (xs : List Val) : eqvs xs [] = xs.isEmpty := by cases xs <;> rfl
theorem flats_strs : ∀ c : List T, Val.flats (c.map .str) = true
  | [] => rfl
  | _ :: c => by simp [Val.flats, Val.flat, flats_strs c]
theorem deeps_strs : ∀ c : List T, Val.deeps (c.map .str) = 0
  | [] => rfl
  | _ :: c => by simp [Val.deeps, Val.deep, deeps_strs c]
theorem memV_strs (s : T) : ∀ ts : List T, memV (.str s) (ts.map .str) = ts.contains s
  | [] => rfl
  | t :: ts => by
    show (eqv (.str t) (.str s) || memV (.str s) (ts.map .str)) = _
    rw [memV_strs s ts]
    show ((t == s) || ts.contains s) = (t :: ts).contains s
    rw [List.contains_cons, Bool.beq_comm]
/-- a list of texts is empty -/
theorem p_eq_empty (ss : List T) (h : Heap) : evP .eq [.list (ss.map .str), .list []] h = .ok (.bool ss.isEmpty) h := by
  rw [p_eq h (by show Val.flats _ = true; exact flats_strs ss) rfl (by show Val.deeps _ + 1 ≤ 64; rw [deeps_strs]; decide) (by decide)]
  show Res.ok (Val.bool (eqvs (ss.map .str) [])) h = _
  rw [eqvs_nil, List.isEmpty_map]
theorem p_ne_empty (ss : List T) (h : Heap) : evP .ne [.list (ss.map .str), .list []] h = .ok (.bool (!ss.isEmpty)) h := by
  rw [p_ne h (by show Val.flats _ = true; exact flats_strs ss) rfl (by show Val.deeps _ + 1 ≤ 64; rw [deeps_strs]; decide) (by decide)]
  show Res.ok (Val.bool (!eqvs (ss.map .str) [])) h = _
  rw [eqvs_nil, List.isEmpty_map]
theorem p_mem_tup (s : T) (ts : List T) (h : Heap) : evP .mem [.str s, .tup (ts.map .str)] h = .ok (.bool (ts.contains s)) h := by
  show optB (inV h (.str s) (.tup (ts.map .str))) h = _
  have e : inV h (.str s) (.tup (ts.map .str)) = some (ts.contains s) := by
    unfold inV
    simp only [dr, Val.flat, flats_strs, Val.deep, deeps_strs, memV_strs]
    rfl
  rw [e]; rfl
theorem p_mem_list (s : T) (ts : List T) (h : Heap) : evP .mem [.str s, .list (ts.map .str)] h = .ok (.bool (ts.contains s)) h := by
  show optB (inV h (.str s) (.list (ts.map .str))) h = _
  have e : inV h (.str s) (.list (ts.map .str)) = some (ts.contains s) := by
    unfold inV
    simp only [dr, Val.flat, flats_strs, Val.deep, deeps_strs, memV_strs]
    rfl
  rw [e]; rfl
theorem p_notmem_tup (s : T) (ts : List T) (h : Heap) : evP .notmem [.str s, .tup (ts.map .str)] h = .ok (.bool (!ts.contains s)) h := by
  have e : evP .notmem [.str s, .tup (ts.map .str)] h = optB ((inV h (.str s) (.tup (ts.map .str))).map (!·)) h := rfl
  have e2 : inV h (.str s) (.tup (ts.map .str)) = some (ts.contains s) := by
    unfold inV
    simp only [dr, Val.flat, flats_strs, Val.deep, deeps_strs, memV_strs]
    rfl
  rw [e, e2]; rfl
theorem p_notmem_list (s : T) (ts : List T) (h : Heap) : evP .notmem [.str s, .list (ts.map .str)] h = .ok (.bool (!ts.contains s)) h := by
  have e : evP .notmem [.str s, .list (ts.map .str)] h = optB ((inV h (.str s) (.list (ts.map .str))).map (!·)) h := rfl
  have e2 : inV h (.str s) (.list (ts.map .str)) = some (ts.contains s) := by
    unfold inV
    simp only [dr, Val.flat, flats_strs, Val.deep, deeps_strs, memV_strs]
    rfl
  rw [e, e2]; rfl
theorem le_sign (c d : Nat) (h : Heap) : evP .le [.str [c], .str [d]] h = .ok (.bool (decide (c ≤ d))) h := by
  have e : evP .le [.str [c], .str [d]] h = .ok (.bool (!ltT [d] [c])) h := rfl
  rw [e]
  have : (!ltT [d] [c]) = decide (c ≤ d) := by
    simp only [ltT]
    by_cases z : c ≤ d
    · have : ¬ d < c := by omega
      simp only [this, if_false, z, decide_true]
      split <;> rfl
    · have : d < c := by omega
      simp [this, z]
  rw [this]
/-! ### comprehensions over a text -/
theorem comp_str_map {step : Val → Heap → Res (List Val)} {h : Heap} {s : T} (f : Nat → Val) (k : ∀ c ∈ s, step (.str [c]) h = .ok [f c] h) : turns none step (s.map fun c => .str [c]) h = .ok (s.map f) h := by
  rw [turns_pure (g := fun v => match v with
    | .str [c] => [f c]
    | _ => []) rfl fun x hx => by
      obtain ⟨c, hc, rfl⟩ := List.mem_map.mp hx
      exact k c hc]
  rw [List.flatMap_map]
  congr 1
  exact flatMap_one f s
theorem comp_str_filter {step : Val → Heap → Res (List Val)} {h : Heap} {s : T} (p : Nat → Bool) (k : ∀ c ∈ s, step (.str [c]) h = .ok (if p c then [.str [c]] else []) h) : turns none step (s.map fun c => .str [c]) h = .ok (((s.filter p).map fun c => [c]).map .str) h := by
  rw [turns_pure (g := fun v => match v with
    | .str [c] => if p c then [.str [c]] else []
    | _ => []) rfl fun x hx => by
      obtain ⟨c, hc, rfl⟩ := List.mem_map.mp hx
      exact k c hc]
  rw [List.flatMap_map]
  congr 1
  clear k
  induction s with
  | nil => rfl
  | cons c r ih =>
    rw [List.flatMap_cons, ih, List.filter_cons]
    cases z : p c <;> simp [z]
end M
namespace M
open PySem
/-! ### drawing -/
theorem Dk.more {rest l h : Heap} (d : Dk (rest ++ l) h) : ∃ h0, Dk rest h0 ∧ h = h0 ++ l := by
  obtain ⟨c, s, t, hc, rfl⟩ := d
  exact ⟨deck c s t ++ rest, ⟨c, s, t, hc, rfl⟩, by simp⟩
def fDraw : Fn := ⟨2, 4, false, bDraw⟩
theorem draw_at {G : Tab} {k i : Nat} {m : Int} {rest h : Heap} (e : G i = some fDraw) (hm : 0 < m) (hm2 : m < 1073741824) (hd : Dk rest h) :
    Wp (callN G (k + 1) i [.ref 1, .int m] h) fun v h' => (∃ r, v = .int r ∧ 0 ≤ r ∧ r < m) ∧ Dk rest h' := by
  rw [call_succ e]
  exact draw_ok hm hm2 hd
/-- an item of a list at a number that lies in it -/
theorem atI_mem {A : Type} {xs : List A} {i : Int} (h0 : 0 ≤ i) (h1 : i < xs.length) : ∃ x ∈ xs, atI xs i = some x := by
  rw [atI_nat h0 h1]
  have l : i.toNat < xs.length := by omega
  exact ⟨xs[i.toNat], List.getElem_mem l, List.getElem?_eq_getElem l⟩
/-- signs that are drawn, joined -/
theorem signs_of {P : Nat → Prop} {R : Val → Val → Prop} (hR : ∀ x y, R x y → ∃ c, y = .str [c] ∧ P c) : ∀ {xs l : List Val}, F2 R xs l → ∃ t : T, l = (t.map fun c => [c]).map .str ∧ (∀ c ∈ t, P c) ∧ t.length = xs.length
  | _, _, .nil => ⟨[], rfl, by simp, rfl⟩
  | _, _, .cons h t => by
    obtain ⟨c, rfl, pc⟩ := hR _ _ h
    obtain ⟨s, rfl, ps, ls⟩ := signs_of hR t
    exact ⟨c :: s, rfl, fun d hd => by
      rcases List.mem_cons.mp hd with rfl | hd
      · exact pc
      · exact ps d hd, by simp [ls]⟩
theorem texts_of {P : T → Prop} {R : Val → Val → Prop} (hR : ∀ x y, R x y → ∃ c, y = .str c ∧ P c) : ∀ {xs l : List Val}, F2 R xs l → ∃ t : List T, l = t.map .str ∧ (∀ c ∈ t, P c) ∧ t.length = xs.length
  | _, _, .nil => ⟨[], rfl, by simp, rfl⟩
  | _, _, .cons h t => by
    obtain ⟨c, rfl, pc⟩ := hR _ _ h
    obtain ⟨s, rfl, ps, ls⟩ := texts_of hR t
    exact ⟨c :: s, rfl, fun d hd => by
      rcases List.mem_cons.mp hd with rfl | hd
      · exact pc
      · exact ps d hd, by simp [ls]⟩
theorem ints_of {P : Int → Prop} {R : Val → Val → Prop} (hR : ∀ x y, R x y → ∃ c, y = .int c ∧ P c) : ∀ {xs l : List Val}, F2 R xs l → ∃ t : List Int, l = t.map .int ∧ (∀ c ∈ t, P c) ∧ t.length = xs.length
  | _, _, .nil => ⟨[], rfl, by simp, rfl⟩
  | _, _, .cons h t => by
    obtain ⟨c, rfl, pc⟩ := hR _ _ h
    obtain ⟨s, rfl, ps, ls⟩ := ints_of hR t
    exact ⟨c :: s, rfl, fun d hd => by
      rcases List.mem_cons.mp hd with rfl | hd
      · exact pc
      · exact ps d hd, by simp [ls]⟩
theorem flatten_ones (t : T) : (t.map fun c => [c]).flatten = t := by
  induction t with
  | nil => rfl
  | cons c r ih => rw [List.map_cons, List.flatten_cons, ih]; rfl
theorem ascL_iff {s : T} : ascL s = true ↔ ∀ c ∈ s, c < 128 := by
  unfold ascL
  rw [List.all_eq_true]
  exact ⟨fun h c hc => of_decide_eq_true (h c hc), fun h c hc => decide_eq_true (h c hc)⟩
theorem p_join_signs {t : T} (h : Heap) (k : ∀ c ∈ t, c < 128) (l : t.length ≤ SL) : evP .join [.str [], .list ((t.map fun c => [c]).map .str)] h = .ok (.str t) h := by
  have e : joinT [] (t.map fun c => [c]) = t := by rw [joinT_nil, flatten_ones]
  rw [p_join h (by rw [e]; exact ascL_iff.mpr k) ?_, e]
  have : ∀ t : T, (((t.map fun c => [c]) : List T).map (·.length)).sum = t.length := fun t => by
    induction t with
    | nil => rfl
    | cons c r ih => simp only [List.map_cons, List.sum_cons, ih, List.length_cons, List.length_nil]; omega
  rw [this]
  simpa using l
theorem ascL_cut {s : T} (h : ascL s = true) (a b : Option Int) : ascL (cut s a b) = true := by
  rw [ascL_iff] at *
  intro c hc
  unfold cut at hc
  exact h c (List.mem_of_mem_drop (List.mem_of_mem_take hc))
theorem cut_lenL {A : Type} (s : List A) (a b : Option Int) : (cut s a b).length ≤ s.length := by
  unfold cut
  rw [List.length_take, List.length_drop]
  omega
theorem cut_mem {A : Type} {s : List A} {a b : Option Int} {x : A} (h : x ∈ cut s a b) : x ∈ s := by
  unfold cut at h
  exact List.mem_of_mem_drop (List.mem_of_mem_take h)
theorem okT_app {s t : T} {h : Heap} (hs : s.length ≤ 1000000) (ht : t.length ≤ 1000000) : okT (s ++ t) h = .ok (.str (s ++ t)) h := okT_ok _ _ (by
  rw [List.length_append]
  have : SL = 16777216 := rfl
  omega)
theorem okT_app3 {s t u : T} {h : Heap} (hs : s.length ≤ 1000000) (ht : t.length ≤ 1000000) (hu : u.length ≤ 1000000) : okT ((s ++ t) ++ u) h = .ok (.str ((s ++ t) ++ u)) h := okT_ok _ _ (by
  rw [List.length_append, List.length_append]
  have : SL = 16777216 := rfl
  omega)
theorem p_mul_str {s : T} {j : Int} {h : Heap} (l : s.length * j.toNat ≤ SL) (h1 : j < 1000000000) (h2 : -1000000000 < j) : evP .mul [.str s, .int j] h = .ok (.str (List.replicate j.toNat s).flatten) h := by
  show (if s.length * j.toNat ≤ SL ∧ inM j = true then _ else _) = _
  rw [if_pos ⟨l, inM_iff.mpr ⟨h1, h2⟩⟩]
theorem range_one {j : Int} (h : -RL ≤ j) (h' : j ≤ RL) : itRange [.int j] = some (rangeL 0 j.toNat) := by
  rw [itR1]
  rw [if_pos ⟨h, h'⟩]
theorem range_two {i j : Int} (h1 : -RL ≤ i) (h2 : i ≤ RL) (h : -RL ≤ j) (h' : j ≤ RL) : itRange [.int i, .int j] = some (rangeL i (j - i).toNat) := by
  rw [itR2]
  rw [if_pos ⟨h1, h2, h, h'⟩]
theorem evB_app (cl : CallFn) : ∀ (a b : List MS) (ls : Loc) (h : Heap), evB cl (a ++ b) ls h = (evB cl a ls h).bind fun f h => match f with
    | .nx ls => evB cl b ls h
    | f => .ok f h
  | [], b, ls, h => rfl
  | s :: a, b, ls, h => by
    rw [List.cons_append, b_cons, b_cons]
    cases evS cl s ls h with
    | ok f h1 =>
      cases f with
      | nx ls1 => exact evB_app cl a b ls1 h1
      | ret v => rfl
      | brk l => rfl
    | exc _ _ => rfl
    | stuck => rfl
/-- some statements that are reckoned at once -/
theorem wp_block {cl : CallFn} {a b : List MS} {ls ls' : Loc} {h h' : Heap} {Q : Flow → Heap → Prop} (e : evB cl a ls h = .ok (.nx ls') h') (q : Wp (evB cl b ls' h') Q) : Wp (evB cl (a ++ b) ls h) Q := by
  rw [evB_app, e]
  exact q
theorem run_top {cl : CallFn} {fn : Fn} {vs : List Val} (hn : vs.length = fn.n) (hk : fn.keep = false) (e : Wp (evB cl fn.body (vs.map some ++ List.replicate (fn.slots - fn.n) none) []) fun f _ => f = .ret (.bool true)) : Wp (runF cl fn vs []) fun v _ => v = .bool true := by
  unfold runF
  rw [if_pos hn]
  cases z : evB cl fn.body (vs.map some ++ List.replicate (fn.slots - fn.n) none) [] with
  | ok f h' =>
    rw [z] at e
    have e : f = .ret (.bool true) := e
    subst e
    show Wp (dropTo fn.keep [] (.bool true) h') _
    unfold dropTo
    rw [hk]
    show Wp (if (true && okDrop 0 [] h') = true then Res.ok (Val.bool true) (h'.take 0) else .stuck) _
    have : okDrop 0 [] h' = true := by cases h' <;> rfl
    rw [this]
    rfl
  | exc _ _ => rw [z] at e; exact e.elim
  | stuck => rw [z] at e; exact e.elim
end M
namespace M
open PySem
local macro_rules | `(tactic| decreasing_trivial) => `(tactic| try simp only [wp_bind, wp_ok, bind_ok, e_lit, e_var, e_prim, e_and, e_or, e_not, e_ite, e_chain, e_call, e_comp, e_frz, e_meth, es_nil, es_cons, c_nil, c_cons, i_val, i_range, i_enum, i_zip, s_asg, s_par, s_asg2, setsTg, s_aug, s_expr, s_ite, s_wh, s_for, s_ret, s_brk, t_ev, st_nil, st_cons, st_name, st_tup, st_ix,
  List.getElem?_cons_zero, List.getElem?_cons_succ, List.set_cons_zero, List.set_cons_succ, List.map_cons, List.map_nil, List.cons_append, List.nil_append, List.append_nil, List.replicate_succ, List.replicate_zero, selV, Option.map_some,
  p_add_int, p_add_str, p_add_tup, p_add_list, p_sub, p_neg, p_eq_int, p_ne_int, p_eq_str, p_ne_str, p_lt, p_gt, p_le, p_ge, p_isNone, p_isNotNone, p_isTrue, p_isFalse, p_isNotTrue, p_isNotFalse, p_mem_sign, p_notmem_sign, p_ix_str, p_ix_list, p_ix_tup, optV_some, p_sl11, p_sl10, p_sl01, p_sl00, sl_str, sl_list, sl_tup, p_rev_str, p_rev_list, p_rev_tup, p_tup, p_list, p_len_str, p_len_list, p_len_tup, p_min2, p_max2, p_int_bool, p_int_int, p_bool, p_str_str, p_ord, p_listOf_list, p_listOf_tup, p_tupOf_list, p_tupOf_tup, truth_bool, truth_int, truth_str, truth_list, truth_tup, if_tt, if_ff, if_true, if_false, it_list, it_tup, it_str,
  okList_ok, okTup_ok, SL_val, List.length_cons, List.length_nil, Nat.reduceAdd, Nat.reduceLeDiff, Nat.zero_add, killL, List.foldl_cons, List.foldl_nil, setTg])
local macro_rules | `(tactic| get_elem_tactic_trivial) => `(tactic| exact pr_ret rfl)
def B_sums_of_1 : List MS := [.expr (.meth .append (.var 1) [(.prim .add [(.prim .ix [(.var 1), (.prim .neg [(.lit (.int 1))])]), (.var 2)])])]
/-- sums_of lengths found length -/
def B_sums_of : List MS := [.asg [.name 1] (.prim (.list true) [(.lit (.int 0))]), .for (.name 2) (.val (.var 0)) B_sums_of_1, .ret (.frz (.var 1))]
def F_sums_of : Fn := ⟨1, 3, false, B_sums_of⟩
/-- line_cost sums weights frame start stop first further wide column signs cost -/
def B_line_cost : List MS := [.asg [.tup [5, 6, 7]] (.var 2), .asg [.name 8] (.ite (.prim .eq [(.var 3), (.lit (.int 0))]) (.var 5) (.var 6)), .asg [.name 9] (.prim .sub [(.prim .sub [(.prim .add [(.prim .sub [(.prim .add [(.var 8), (.prim .ix [(.var 0), (.var 4)])]), (.prim .ix [(.var 0), (.var 3)])]), (.var 4)]), (.var 3)]), (.lit (.int 1))]), .asg [.name 10] (.prim .mul [(.lit (.int 1000)), (.prim .max2 [(.lit (.int 0)), (.prim .sub [(.var 9), (.var 7)])])]), .ite (.prim .lt [(.var 4), (.prim .sub [(.prim .len [(.var 0)]), (.lit (.int 1))])]) [.aug 10 .add (.prim .ix [(.var 1), (.prim .sub [(.var 4), (.lit (.int 1))])])] [], .ret (.var 10)]
def F_line_cost : Fn := ⟨5, 11, false, B_line_cost⟩
def B_breaks_cost_1 (i_line_cost : Nat) : List MS := [.aug 4 .add (.call i_line_cost [(.var 0), (.var 1), (.var 2), (.var 5), (.var 6)] [] [.inl 0, .inl 1, .inl 2, .inl 3, .inl 4]), .asg [.name 5] (.var 6)]
/-- breaks_cost sums weights frame breaks cost start stop number -/
def B_breaks_cost (i_line_cost : Nat) : List MS := [.asg2 4 5 (.lit (.int 0)), .for (.name 6) (.val (.prim .add [(.comp false [7] (.name 7) (.val (.var 3)) [] (.prim .add [(.var 7), (.lit (.int 1))])), (.prim (.list false) [(.prim .sub [(.prim .len [(.var 0)]), (.lit (.int 1))])])])) (B_breaks_cost_1 i_line_cost), .ret (.var 4)]
def F_breaks_cost (i_line_cost : Nat) : Fn := ⟨4, 8, false, B_breaks_cost i_line_cost⟩
/-- are_numbers thing one -/
def B_are_numbers : List MS := [.ret (.and (.prim (.isi [3]) [(.var 0)]) (.prim .all [(.comp false [1] (.name 1) (.val (.var 0)) [] (.and (.prim (.isi [1]) [(.var 1)]) (.not (.prim (.isi [2]) [(.var 1)]))))]))]
def F_are_numbers : Fn := ⟨1, 2, false, B_are_numbers⟩
/-- are_breaks many thing one other -/
def B_are_breaks (i_are_numbers : Nat) : List MS := [.ite (.or (.not (.call i_are_numbers [(.var 1)] [] [.inl 0])) (.not (.prim .all [(.comp false [2] (.name 2) (.val (.var 1)) [] (.chain .le .lt (.lit (.int 0)) (.var 2) (.prim .sub [(.var 0), (.lit (.int 1))])))]))) [.ret (.lit (.bool false))] [], .ret (.prim .all [(.comp false [2, 3] (.tup [2, 3]) (.zip (.prim (.sl false true) [(.var 1), (.prim .neg [(.lit (.int 1))])]) (.prim (.sl true false) [(.var 1), (.lit (.int 1))])) [] (.prim .lt [(.var 2), (.var 3)]))])]
def F_are_breaks (i_are_numbers : Nat) : Fn := ⟨2, 4, false, B_are_breaks i_are_numbers⟩
def B_are_worths_2 (i_are_numbers : Nat) (i_line_cost : Nat) : List MS := [.ite (.prim .gt [(.prim .ix [(.var 3), (.var 4)]), (.prim .add [(.prim .ix [(.var 3), (.var 5)]), (.call i_line_cost [(.var 0), (.var 1), (.var 2), (.var 5), (.var 4)] [] [.inl 0, .inl 1, .inl 2, .inl 3, .inl 4])])]) [.ret (.lit (.bool false))] []]
def B_are_worths_1 (i_are_numbers : Nat) (i_line_cost : Nat) : List MS := [.for (.name 5) (.range [(.var 4)]) (B_are_worths_2 i_are_numbers i_line_cost)]
/-- are_worths sums weights frame thing stop start -/
def B_are_worths (i_are_numbers : Nat) (i_line_cost : Nat) : List MS := [.ite (.or (.not (.call i_are_numbers [(.var 3)] [] [.inl 0])) (.or (.prim .ne [(.prim .len [(.var 3)]), (.prim .len [(.var 0)])]) (.prim .ne [(.prim .ix [(.var 3), (.lit (.int 0))]), (.lit (.int 0))]))) [.ret (.lit (.bool false))] [], .for (.name 4) (.range [(.lit (.int 1)), (.prim .len [(.var 0)])]) (B_are_worths_1 i_are_numbers i_line_cost), .ret (.lit (.bool true))]
def F_are_worths (i_are_numbers : Nat) (i_line_cost : Nat) : Fn := ⟨4, 6, false, B_are_worths i_are_numbers i_line_cost⟩
/-- least_holds lengths weights thing first further width sums frame breaks worths -/
def B_least_holds (i_are_breaks : Nat) (i_are_worths : Nat) (i_breaks_cost : Nat) (i_sums_of : Nat) : List MS := [.par [6, 7] [(.call i_sums_of [(.var 0)] [] [.inl 0]), (.prim .tup [(.var 3), (.var 4), (.var 5)])], .ite (.or (.not (.prim (.isi [3]) [(.var 2)])) (.prim .ne [(.prim .len [(.var 2)]), (.lit (.int 2))])) [.ret (.lit (.bool false))] [], .asg [.tup [8, 9]] (.var 2), .ite (.or (.not (.call i_are_breaks [(.prim .len [(.var 0)]), (.var 8)] [] [.inl 0, .inl 1])) (.not (.call i_are_worths [(.var 6), (.var 1), (.var 7), (.var 9)] [] [.inl 0, .inl 1, .inl 2, .inl 3]))) [.ret (.lit (.bool false))] [], .ret (.prim .eq [(.call i_breaks_cost [(.var 6), (.var 1), (.var 7), (.var 8)] [] [.inl 0, .inl 1, .inl 2, .inl 3]), (.prim .ix [(.var 9), (.prim .neg [(.lit (.int 1))])])])]
def F_least_holds (i_are_breaks : Nat) (i_are_worths : Nat) (i_breaks_cost : Nat) (i_sums_of : Nat) : Fn := ⟨6, 10, false, B_least_holds i_are_breaks i_are_worths i_breaks_cost i_sums_of⟩
/-! ### loops with what is gone through -/
theorem for_pre {pin : Pin} {step : Val → Loc → Heap → Res Flow} {I : List Val → Loc → Heap → Prop} {Q : Flow → Heap → Prop} (hp : ∀ pre ls h, I pre ls h → pinned h pin = true) : ∀ {xs pre : List Val} {ls : Loc} {h : Heap}, I pre ls h →
    (∀ p x q, p ++ x :: q = pre ++ xs → ∀ ls h, I p ls h → Wp (step x ls h) fun f h' => match f with
      | .nx ls => I (p ++ [x]) ls h'
      | .ret v => Q (.ret v) h'
      | .brk ls => Q (.nx ls) h') → (∀ ls h, I (pre ++ xs) ls h → Q (.nx ls) h) → Wp (forL pin step xs ls h) Q
  | [], pre, ls, h, i, _, d => by
    unfold forL
    rw [if_pos (hp pre ls h i)]
    rw [List.append_nil] at d
    exact d ls h i
  | x :: r, pre, ls, h, i, k, d => by
    unfold forL
    rw [if_pos (hp pre ls h i), wp_bind]
    refine (k pre x r rfl ls h i).mono fun f h1 q => ?_
    have e : (pre ++ [x]) ++ r = pre ++ x :: r := by simp
    cases f with
    | nx ls1 => exact for_pre hp q (fun p y t ht => k p y t (by rw [ht, e])) (by rw [e]; exact d)
    | ret v => exact q
    | brk ls1 => exact q
theorem comp_int_map {step : Val → Heap → Res (List Val)} {h : Heap} {s : List Int} (f : Int → Val) (k : ∀ c ∈ s, step (.int c) h = .ok [f c] h) : turns none step (s.map .int) h = .ok (s.map f) h := by
  rw [turns_pure (g := fun v => match v with
    | .int c => [f c]
    | _ => []) rfl fun x hx => by
      obtain ⟨c, hc, rfl⟩ := List.mem_map.mp hx
      exact k c hc]
  rw [List.flatMap_map]
  congr 1
  exact flatMap_one f s
theorem comp_map {step : Val → Heap → Res (List Val)} {h : Heap} {s : List Val} (f : Val → Val) (k : ∀ c ∈ s, step c h = .ok [f c] h) : turns none step s h = .ok (s.map f) h := by
  rw [turns_pure (g := fun v => [f v]) rfl fun x hx => k x hx]
  congr 1
  exact flatMap_one f s
/-! ### kinds -/
def isI : Val → Bool
  | .int _ => true
  | _ => false
def isB : Val → Bool
  | .bool _ => true
  | _ => false
def isT : Val → Bool
  | .tup _ => true
  | _ => false
theorem p_isi1 {v : Val} (a : okA v = true) (h : Heap) : evP (.isi [1]) [v] h = .ok (.bool (isI v || isB v)) h := by
  cases v <;> first | rfl | cases a
theorem p_isi2 {v : Val} (a : okA v = true) (h : Heap) : evP (.isi [2]) [v] h = .ok (.bool (isB v)) h := by
  cases v <;> first | rfl | cases a
theorem p_isi3 {v : Val} (a : okA v = true) (h : Heap) : evP (.isi [3]) [v] h = .ok (.bool (isT v)) h := by
  cases v <;> first | rfl | cases a
theorem okAs_mem : ∀ {xs : List Val}, okAs xs = true → ∀ x ∈ xs, okA x = true
  | [], _, x, h => by cases h
  | y :: r, e, x, h => by
    have e' := Bool.and_eq_true_iff.mp (show (okA y && okAs r) = true from e)
    rcases List.mem_cons.mp h with rfl | h
    · exact e'.1
    · exact okAs_mem e'.2 x h
theorem all_ints : ∀ {xs : List Val}, xs.all isI = true → ∃ is : List Int, xs = is.map .int
  | [], _ => ⟨[], rfl⟩
  | x :: r, h => by
    have h' := Bool.and_eq_true_iff.mp (show (isI x && r.all isI) = true from h)
    obtain ⟨is, rfl⟩ := all_ints h'.2
    cases x with
    | int i => exact ⟨i :: is, rfl⟩
    | _ => cases h'.1
theorem ints_all (is : List Int) : (is.map Val.int).all isI = true := by
  rw [List.all_map]
  exact List.all_eq_true.mpr fun _ _ => rfl
/-! ### numbers -/
def numsB : Val → Bool
  | .tup xs => xs.all isI
  | _ => false
section
variable {G : Tab} {k : Nat}
theorem nums_ok {i : Nat} (e : G i = some F_are_numbers) {v : Val} {h : Heap} (a : okA v = true) (l : ∀ xs, v = .tup xs → xs.length ≤ SL) : callN G (k + 1) i [v] h = .ok (.bool (numsB v)) h := by
  rw [call_succ e]
  refine run_pure rfl rfl rfl ?_
  show Wp (evB _ B_are_numbers [some v, none] h) _
  refine wp_one ?_
  decreasing_trivial
  simp only [p_isi3 a, wp_ok, bind_ok, truth_bool]
  cases v with
  | tup xs =>
    simp only [isT, if_tt, if_true]
    decreasing_trivial
    refine Wp.of_eq (comp_map (fun x => .bool (isI x)) fun x hx => ?_) ?_
    · have ax := okAs_mem a x hx
      decreasing_trivial
      simp only [p_isi1 ax, bind_ok, truth_bool]
      cases x <;> first | (cases ax; done) | skip
      all_goals first | rfl | simp only [isI, isB, Bool.or_self, Bool.or_true, Bool.true_or, if_tt, if_true, if_ff, if_false, bind_ok, truth_bool]
      all_goals first | rfl | (decreasing_trivial; rfl)
    · rw [okList_ok _ _ (by rw [List.length_map]; exact l xs rfl), wp_ok, p_all]
      exact pr_ret rfl
  | _ => first | (cases a; done) | (simp only [isT, if_ff, if_false, wp_ok]; exact pr_ret rfl)

/-! ### sums -/
def scanI (a : Int) : List Int → List Int
  | [] => [a]
  | x :: r => a :: scanI (a + x) r
theorem scanI_len : ∀ (a : Int) (l : List Int), (scanI a l).length = l.length + 1
  | _, [] => rfl
  | a, x :: r => by simp [scanI, scanI_len]
theorem scanI_snoc : ∀ (a : Int) (l : List Int) (x : Int), scanI a (l ++ [x]) = scanI a l ++ [(a + l.sum) + x]
  | a, [], x => by simp [scanI]
  | a, y :: r, x => by
    show a :: scanI (a + y) (r ++ [x]) = _
    rw [scanI_snoc]
    simp [scanI, Int.add_assoc]
theorem scanI_last : ∀ (a : Int) (l : List Int), (scanI a l).getLast? = some (a + l.sum)
  | a, [] => by simp [scanI]
  | a, y :: r => by
    have ih := scanI_last (a + y) r
    show (a :: scanI (a + y) r).getLast? = _
    have ne : scanI (a + y) r ≠ [] := by cases r <;> simp [scanI]
    rw [List.getLast?_cons, ih]
    simp [Int.add_assoc]
theorem atI_last' {A : Type} {xs : List A} {a : A} (h : xs.getLast? = some a) : atI xs (-1) = some a := by
  have l : 0 < xs.length := by
    cases xs with
    | nil => cases h
    | cons _ _ => simp
  unfold atI ixN
  rw [if_neg (by decide), if_pos (by omega)]
  have e : ((-1 : Int) + (xs.length : Int)).toNat = xs.length - 1 := by omega
  rw [e, Option.bind_some, ← List.getLast?_eq_getElem?]
  exact h
theorem frz_ok {n : Nat} {xs : List Val} {h : Heap} (e : h[n]? = some (.list xs)) : frzV (.ref n) h = .ok (.list xs) (h.set n .dead) := by
  unfold frzV
  simp only [e]
theorem ix_ref {n : Nat} {xs : List Val} {h : Heap} (e : h[n]? = some (.list xs)) (i : Int) : evP .ix [.ref n, .int i] h = optV (atI xs i) h := by
  have d : dr h (.ref n) = some (.list xs) := by
    show (match h[n]? with
      | some (.list xs) => some (Val.list xs)
      | some (.dict ks vs) => some (.dict ks vs)
      | _ => none) = _
    rw [e]
  show optV (match dr h (.ref n) with
    | some (.str s) => (atI s i).map fun c => .str [c]
    | some (.list xs) => atI xs i
    | some (.tup xs) => atI xs i
    | _ => none) h = _
  rw [d]
theorem append_ref {n : Nat} {xs : List Val} {h : Heap} {v : Val} (e : h[n]? = some (.list xs)) (l : xs.length < SL) : evP .append [.ref n, v] h = .ok .none (h.set n (.list (xs ++ [v]))) := by
  show lst1 h n (fun xs => if xs.length < SL then .ok .none (h.set n (.list (xs ++ [v]))) else .stuck) = _
  unfold lst1
  rw [e]
  simp only
  rw [if_pos l]
theorem recv_append {n : Nat} {xs : List Val} {h : Heap} (e : h[n]? = some (.list xs)) : recv .append (.ref n) h = true := by
  show (match h[n]? with
    | some (.list _) => true
    | _ => false) = true
  rw [e]
theorem at_end (h : Heap) (o : Obj) (t : Heap) : (h ++ o :: t)[h.length]? = some o := by simp
theorem set_end (h : Heap) (o o' : Obj) (t : Heap) : (h ++ o :: t).set h.length o' = h ++ o' :: t := by simp
theorem sums_ok {i : Nat} (e : G i = some F_sums_of) {ls : List Int} {h : Heap} (l : ls.length < 1000000) : callN G (k + 1) i [.tup (ls.map .int)] h = .ok (.list ((scanI 0 ls).map .int)) h := by
  rw [call_succ e]
  refine run_pure rfl rfl (flat_lt (flats_ints _)) ?_
  show Wp (evB _ B_sums_of [some (.tup (ls.map .int)), none, none] h) _
  refine wp_seq ?_
  decreasing_trivial
  rw [okList_mut _ _ (by show 1 ≤ SL; decide)]
  decreasing_trivial
  refine wp_seq ?_
  decreasing_trivial
  refine for_pre (pre := []) (I := fun pre ls' h' => ∃ ps : List Int, ∃ x, pre = ps.map .int ∧ ls' = [some (.tup (ls.map .int)), some (.ref h.length), x] ∧ h' = h ++ [.list ((scanI 0 ps).map .int)]) (fun _ _ _ _ => rfl) ⟨[], none, rfl, rfl, rfl⟩ (fun p x q hf ls' h' ⟨ps, y, e1, e2, e3⟩ => ?_) (fun ls' h' ⟨ps, y, e1, e2, e3⟩ => ?_)
  · subst e1 e2 e3
    have hx : x ∈ ls.map Val.int := by
      have : x ∈ ps.map Val.int ++ x :: q := by simp
      rw [hf] at this
      exact this
    obtain ⟨i, hi, rfl⟩ := List.mem_map.mp hx
    have lp : ps.length < 1000000 := by
      have := congrArg List.length hf
      simp at this
      omega
    have at0 : (h ++ [Obj.list ((scanI 0 ps).map .int)] : Heap)[h.length]? = some (.list ((scanI 0 ps).map .int)) := at_end _ _ _
    have la : atI ((scanI 0 ps).map Val.int) (-1) = some (.int (0 + ps.sum)) := atI_last' (by rw [List.getLast?_map, scanI_last]; rfl)
    have SLv : SL = 16777216 := rfl
    decreasing_trivial
    refine wp_one ?_
    decreasing_trivial
    simp only [recv_append at0, if_tt, if_true, ix_ref at0, la, optV_some, wp_ok, bind_ok]
    decreasing_trivial
    simp only [ix_ref at0, la, optV_some, wp_ok, bind_ok, p_add_int, append_ref at0 (show ((scanI 0 ps).map Val.int).length < SL by rw [List.length_map, scanI_len]; omega), set_end]
    exact ⟨ps ++ [i], _, by simp, rfl, by rw [scanI_snoc, List.map_append]; rfl⟩
  · subst e2 e3
    have ep : ps = ls := by
      have e1 : ls.map Val.int = ps.map Val.int := e1
      have : ∀ {a b : List Int}, a.map Val.int = b.map Val.int → a = b := fun {a} => by
        induction a with
        | nil => intro b z; cases b with
          | nil => rfl
          | cons _ _ => cases z
        | cons x r ih => intro b z; cases b with
          | nil => cases z
          | cons y s =>
            simp only [List.map_cons, List.cons.injEq, Val.int.injEq] at z
            rw [z.1, ih z.2]
      exact (this e1).symm
    subst ep
    refine wp_one ?_
    decreasing_trivial
    rw [frz_ok (at_end _ _ _)]
    decreasing_trivial
    exact ⟨rfl, [.dead], by rw [set_end]⟩
/-! ### what a line costs -/
def lcost (S W : List Int) (a b w : Int) (i j : Nat) : Int :=
  1000 * max 0 ((if i = 0 then a else b) + S.getD j 0 - S.getD i 0 + j - i - 1 - w) + (if j < S.length - 1 then W.getD (j - 1) 0 else 0)
theorem atI_getD {xs : List Int} {n : Nat} {z : Int} (e : z = (n : Int)) (h : n < xs.length) : atI (xs.map Val.int) z = some (.int (xs.getD n 0)) := by
  subst e
  rw [atI_nat (by omega) (by rw [List.length_map]; omega), Int.toNat_natCast, List.getElem?_map, List.getElem?_eq_getElem h]
  simp [List.getD, h]
theorem line_ok {i : Nat} (e : G i = some F_line_cost) {S W : List Int} {a b w : Int} {s t : Nat} {zs zt : Int} {h : Heap} (es : zs = s) (et : zt = t) (h1 : s < S.length) (h2 : t < S.length) (h3 : t < S.length - 1 → t - 1 < W.length ∧ 1 ≤ t) :
    callN G (k + 1) i [.list (S.map .int), .tup (W.map .int), .tup [.int a, .int b, .int w], .int zs, .int zt] h = .ok (.int (lcost S W a b w s t)) h := by
  rw [call_succ e]
  refine run_pure rfl rfl rfl ?_
  show Wp (evB _ B_line_cost [some (.list (S.map .int)), some (.tup (W.map .int)), some (.tup [.int a, .int b, .int w]), some (.int zs), some (.int zt), none, none, none, none, none, none] h) _
  refine wp_seq ?_
  decreasing_trivial
  refine wp_seq ?_
  decreasing_trivial
  have ec : (Wp (if (zs == 0) = true then Res.ok (Val.int a) h else Res.ok (Val.int b) h)) = Wp (.ok (.int (if s = 0 then a else b)) h) := by
    by_cases z : s = 0
    · rw [if_pos z, if_pos (by rw [es, z]; rfl)]
    · rw [if_neg z, if_neg (by rw [es]; simpa using z)]
  rw [ec]
  decreasing_trivial
  refine wp_seq ?_
  decreasing_trivial
  rw [atI_getD et h2]
  decreasing_trivial
  rw [atI_getD es h1]
  decreasing_trivial
  refine wp_seq ?_
  decreasing_trivial
  rw [p_mul_int _ 1000 _ (by rfl)]
  decreasing_trivial
  refine wp_seq ?_
  decreasing_trivial
  have em : ∀ z : Int, (if z > 0 then z else 0) = max 0 z := fun z => by
    by_cases q : z > 0
    · rw [if_pos q]; omega
    · rw [if_neg q]; omega
  refine wp_if (fun q => ?_) fun q => ?_
  · have q : t < S.length - 1 := by
      have := of_decide_eq_true q
      rw [List.length_map] at this
      omega
    obtain ⟨w1, w2⟩ := h3 q
    refine wp_one ?_
    decreasing_trivial
    rw [atI_getD (n := t - 1) (by omega) w1]
    decreasing_trivial
    simp only [augV, bind_ok, wp_ok, List.set_cons_succ, List.set_cons_zero]
    refine wp_one ?_
    decreasing_trivial
    refine pr_ret ?_
    unfold lcost
    rw [if_pos q, em, es, et]
  · have q : ¬ t < S.length - 1 := by
      have := of_decide_eq_false q
      rw [List.length_map] at this
      omega
    simp only [b_nil, wp_ok]
    refine wp_one ?_
    decreasing_trivial
    refine pr_ret ?_
    unfold lcost
    rw [if_neg q, em, es, et, Int.add_zero]

/-! ### what breaks cost -/
def bco (S W : List Int) (a b w : Int) : Nat → List Nat → Int
  | _, [] => 0
  | s, t :: r => lcost S W a b w s t + bco S W a b w t r
def lastD : List Nat → Nat → Nat
  | [], d => d
  | x :: r, _ => lastD r x
theorem lastD_snoc : ∀ (l : List Nat) (d x : Nat), lastD (l ++ [x]) d = x
  | [], _, _ => rfl
  | y :: r, d, x => lastD_snoc r y x
theorem bco_snoc (S W : List Int) (a b w : Int) : ∀ (s : Nat) (l : List Nat) (t : Nat), bco S W a b w s (l ++ [t]) = bco S W a b w s l + lcost S W a b w (lastD l s) t
  | s, [], t => by simp [bco, lastD]
  | s, x :: r, t => by
    show lcost S W a b w s x + bco S W a b w x (r ++ [t]) = lcost S W a b w s x + bco S W a b w x r + lcost S W a b w (lastD r x) t
    rw [bco_snoc S W a b w x r t]
    omega
/-- the places where lines stop -/
def stopsOf (S : List Int) (bs : List Int) : List Nat := bs.map (fun x => (x + 1).toNat) ++ [S.length - 1]
theorem lastD_mem : ∀ (l : List Nat) (d : Nat), lastD l d = d ∨ lastD l d ∈ l
  | [], d => .inl rfl
  | x :: r, d => by
    rcases lastD_mem r x with h | h
    · exact .inr (by show lastD r x ∈ x :: r; rw [h]; exact List.mem_cons_self)
    · exact .inr (List.mem_cons_of_mem _ h)
theorem nat_map_inj : ∀ {a b : List Nat}, (a.map fun n : Nat => Val.int (n : Int)) = b.map (fun n : Nat => Val.int (n : Int)) → a = b
  | [], [], _ => rfl
  | [], _ :: _, h => by cases h
  | _ :: _, [], h => by cases h
  | x :: r, y :: s, h => by
    simp only [List.map_cons, List.cons.injEq, Val.int.injEq] at h
    rw [Int.ofNat_inj.mp h.1, nat_map_inj h.2]
theorem bcost_ok {i il : Nat} (e : G i = some (F_breaks_cost il)) (el : G il = some F_line_cost) {S W bs : List Int} {a b w : Int} {h : Heap} (hS : 2 ≤ S.length) (hS2 : S.length ≤ 1000000) (hW : S.length ≤ W.length + 2) (hb : ∀ x ∈ bs, 0 ≤ x ∧ x < (S.length : Int) - 2) (hbl : bs.length ≤ 1000000) :
    callN G (k + 2) i [.list (S.map .int), .tup (W.map .int), .tup [.int a, .int b, .int w], .tup (bs.map .int)] h = .ok (.int (bco S W a b w 0 (stopsOf S bs))) h := by
  rw [call_succ e]
  refine run_pure rfl rfl rfl ?_
  show Wp (evB _ (B_breaks_cost il) [some (.list (S.map .int)), some (.tup (W.map .int)), some (.tup [.int a, .int b, .int w]), some (.tup (bs.map .int)), none, none, none, none] h) _
  have SLv : SL = 16777216 := rfl
  refine wp_seq ?_
  decreasing_trivial
  refine wp_seq ?_
  decreasing_trivial
  refine Wp.of_eq (comp_int_map (fun c => .int (c + 1)) fun c _ => ?_) ?_
  · decreasing_trivial
  rw [okList_ok _ _ (by rw [List.length_map]; omega)]
  decreasing_trivial
  have es : (bs.map fun c => Val.int (c + 1)) ++ [Val.int (((S.map Val.int).length : Int) - 1)] = (stopsOf S bs).map fun n : Nat => Val.int (n : Int) := by
    unfold stopsOf
    rw [List.map_append, List.map_map]
    congr 1
    · refine List.map_congr_left fun x hx => ?_
      show Val.int (x + 1) = Val.int (((x + 1).toNat : Nat) : Int)
      have := (hb x hx).1
      congr 1
      omega
    · simp only [List.map_cons, List.map_nil, List.length_map]
      congr 2
      omega
  rw [es, okList_ok _ _ (by unfold stopsOf; simp; omega)]
  decreasing_trivial
  have hst : ∀ n ∈ stopsOf S bs, 1 ≤ n ∧ n < S.length := fun n hn => by
    unfold stopsOf at hn
    rcases List.mem_append.mp hn with hn | hn
    · obtain ⟨x, hx, rfl⟩ := List.mem_map.mp hn
      have := hb x hx
      omega
    · simp at hn
      omega
  refine for_pre (pre := []) (I := fun pre ls' h' => ∃ ps : List Nat, ∃ x, pre = (ps.map fun n : Nat => Val.int (n : Int)) ∧ (∀ n ∈ ps, n ∈ stopsOf S bs) ∧ h' = h ∧
    ls' = [some (.list (S.map .int)), some (.tup (W.map .int)), some (.tup [.int a, .int b, .int w]), some (.tup (bs.map .int)), some (.int (bco S W a b w 0 ps)), some (.int (lastD ps 0 : Nat)), x, none]) (fun _ _ _ _ => rfl) ⟨[], none, rfl, by simp, rfl, rfl⟩ (fun p x q hf ls' h' ⟨ps, y, e1, e2, e3, e4⟩ => ?_) (fun ls' h' ⟨ps, y, e1, e2, e3, e4⟩ => ?_)
  · subst e1 e3 e4
    have hx : x ∈ (stopsOf S bs).map fun n : Nat => Val.int (n : Int) := by
      have : x ∈ (ps.map fun n : Nat => Val.int (n : Int)) ++ x :: q := by simp
      rw [hf] at this
      exact this
    obtain ⟨n, hn, rfl⟩ := List.mem_map.mp hx
    have hn1 := hst n hn
    have hl : lastD ps 0 < S.length := by
      rcases lastD_mem ps 0 with z | z
      · rw [z]; omega
      · exact (hst _ (e2 _ z)).2
    decreasing_trivial
    refine wp_seq ?_
    decreasing_trivial
    rw [line_ok el (s := lastD ps 0) (t := n) rfl rfl hl hn1.2 (fun z => ⟨by omega, hn1.1⟩)]
    simp only [augV, bind_ok, wp_ok, List.set_cons_succ, List.set_cons_zero]
    refine wp_one ?_
    decreasing_trivial
    exact ⟨ps ++ [n], _, by simp, fun m hm => by
      rcases List.mem_append.mp hm with hm | hm
      · exact e2 m hm
      · simp at hm; rw [hm]; exact hn, trivial, by rw [bco_snoc, lastD_snoc]⟩
  · subst e3 e4
    have ep : stopsOf S bs = ps := nat_map_inj e1
    rw [ep]
    refine wp_one ?_
    decreasing_trivial
    get_elem_tactic_trivial
/-! ### breaks -/
def getI : Val → Int
  | .int i => i
  | _ => 0
def items : Val → List Val
  | .tup xs => xs
  | _ => []
def rising : List Int → Bool
  | a :: b :: r => decide (a < b) && rising (b :: r)
  | _ => true
def breaksB (n : Int) (v : Val) : Bool := numsB v && ((items v).all fun x => decide (0 ≤ getI x) && decide (getI x < n - 1)) && rising ((items v).map getI)
theorem getI_map (is : List Int) : (is.map Val.int).map getI = is := by
  rw [List.map_map]
  exact List.map_id is
def pairsV : List Int → List Val
  | a :: b :: r => .tup [.int a, .int b] :: pairsV (b :: r)
  | _ => []
theorem pairs_zip : ∀ is : List Int, zipL (is.map Val.int).dropLast (is.map Val.int).tail = pairsV is
  | [] => rfl
  | [_] => rfl
  | a :: b :: r => by
    show Val.tup [.int a, .int b] :: zipL ((b :: r).map Val.int).dropLast ((b :: r).map Val.int).tail = _
    rw [pairs_zip (b :: r)]
    rfl
theorem pairs_rising : ∀ is : List Int, (pairsV is).all (fun v => match v with
    | .tup [.int a, .int b] => decide (a < b)
    | _ => false) = rising is
  | [] => rfl
  | [_] => rfl
  | a :: b :: r => by
    show (decide (a < b) && (pairsV (b :: r)).all _) = _
    rw [pairs_rising (b :: r)]
    rfl
theorem pairs_form : ∀ {is : List Int} {v : Val}, v ∈ pairsV is → ∃ a b, v = .tup [.int a, .int b]
  | [], v, h => by cases h
  | [_], v, h => by cases h
  | a :: b :: r, v, h => by
    rcases List.mem_cons.mp (show v ∈ Val.tup [.int a, .int b] :: pairsV (b :: r) from h) with rfl | h
    · exact ⟨a, b, rfl⟩
    · exact pairs_form h
theorem pairs_len : ∀ is : List Int, (pairsV is).length ≤ is.length
  | [] => Nat.le_refl _
  | [_] => Nat.zero_le _
  | a :: b :: r => by
    have := pairs_len (b :: r)
    show (pairsV (b :: r)).length + 1 ≤ (b :: r).length + 1
    omega
theorem cut_front {A : Type} (xs : List A) : cut xs none (some (-1)) = xs.dropLast := by
  unfold cut
  rw [sIx_none, sIx_neg (by decide), List.drop_zero, List.dropLast_eq_take]
  congr 1
  omega
theorem cut_tail {A : Type} (xs : List A) : cut xs (some 1) none = xs.tail := by
  unfold cut
  rw [sIx_none, sIx_nat (by decide)]
  cases xs with
  | nil => rfl
  | cons x r =>
    have : min (Int.toNat 1) (x :: r).length = 1 := by
      show min 1 (r.length + 1) = 1
      omega
    rw [this]
    simp
theorem chain_ok {cl : CallFn} {ls : Loc} {h : Heap} {n c : Int} (h2 : ls[2]? = some (some (.int c))) (h0 : ls[0]? = some (some (.int n))) : evE cl (.chain .le .lt (.lit (.int 0)) (.var 2) (.prim .sub [.var 0, .lit (.int 1)])) ls h = .ok (.bool (decide (0 ≤ c) && decide (c < n - 1))) h := by
  simp only [e_chain, e_lit, e_var, e_prim, es_cons, es_nil, h2, h0, bind_ok, p_le, p_sub]
  cases decide (0 ≤ c)
  · rfl
  · simp only [p_lt, Bool.true_and]
theorem breaks_ok {i ia : Nat} (e : G i = some (F_are_breaks ia)) (ea : G ia = some F_are_numbers) {n : Int} {v : Val} {h : Heap} (a : okA v = true) (l : ∀ xs, v = .tup xs → xs.length ≤ SL) : callN G (k + 2) i [.int n, v] h = .ok (.bool (breaksB n v)) h := by
  rw [call_succ e]
  refine run_pure rfl rfl rfl ?_
  show Wp (evB _ (B_are_breaks ia) [some (.int n), some v, none, none] h) _
  refine wp_seq ?_
  decreasing_trivial
  rw [nums_ok ea a l]
  decreasing_trivial
  unfold breaksB
  cases hn : numsB v with
  | false =>
    decreasing_trivial
    simp only [Bool.not_false, if_tt, if_true, Bool.false_and, wp_ok, truth_bool]
    refine wp_one ?_
    decreasing_trivial
    get_elem_tactic_trivial
  | true =>
    cases v with
    | tup xs =>
      obtain ⟨is, rfl⟩ := all_ints hn
      have hl : is.length ≤ SL := by simpa using l _ rfl
      decreasing_trivial
      simp only [Bool.not_true, if_ff, if_false, Bool.true_and, items]
      decreasing_trivial
      refine Wp.of_eq (comp_int_map (fun c => .bool (decide (0 ≤ c) && decide (c < n - 1))) fun c _ => ?_) ?_
      · decreasing_trivial
        cases decide (0 ≤ c) <;> rfl
      · rw [okList_ok _ _ (by rw [List.length_map]; exact hl), wp_ok, p_all]
        have e0 : (is.map Val.int).all (fun x => decide (0 ≤ getI x) && decide (getI x < n - 1)) = is.all fun c => decide (0 ≤ c) && decide (c < n - 1) := by
          rw [List.all_map]; rfl
        rw [e0, getI_map]
        decreasing_trivial
        cases is.all fun c => decide (0 ≤ c) && decide (c < n - 1) with
        | false =>
          simp only [Bool.not_false, if_tt, if_true, Bool.false_and]
          refine wp_one ?_
          decreasing_trivial
          get_elem_tactic_trivial
        | true =>
          simp only [Bool.not_true, if_ff, if_false, Bool.true_and, b_nil, wp_ok]
          refine wp_one ?_
          decreasing_trivial
          simp only [cut_front, cut_tail, zipR, wp_ok, pairs_zip]
          refine Wp.of_eq (comp_map (fun v => .bool (match v with
            | .tup [.int a, .int b] => decide (a < b)
            | _ => false)) fun c hc => ?_) ?_
          · obtain ⟨x, y, rfl⟩ := pairs_form hc
            decreasing_trivial
          · rw [okList_ok _ _ (by rw [List.length_map]; exact Nat.le_trans (pairs_len is) hl), wp_ok, p_all, pairs_rising]
            get_elem_tactic_trivial
    | _ => cases hn

/-! ### worths -/
theorem for_search {pin : Pin} {step : Val → Loc → Heap → Res Flow} {I : Loc → Heap → Prop} {p : Val → Bool} {v : Val} {R : Heap → Prop} (hp : ∀ ls h, I ls h → pinned h pin = true) : ∀ {xs : List Val} {ls : Loc} {h : Heap}, I ls h →
    (∀ x ∈ xs, ∀ ls h, I ls h → Wp (step x ls h) fun f h' => (p x = true ∧ f = .ret v ∧ R h') ∨ (p x = false ∧ ∃ ls', f = .nx ls' ∧ I ls' h')) →
    Wp (forL pin step xs ls h) fun f h' => (xs.any p = true ∧ f = .ret v ∧ R h') ∨ (xs.any p = false ∧ ∃ ls', f = .nx ls' ∧ I ls' h')
  | [], ls, h, i, _ => by
    unfold forL
    rw [if_pos (hp ls h i)]
    exact .inr ⟨rfl, ls, rfl, i⟩
  | x :: r, ls, h, i, k => by
    unfold forL
    rw [if_pos (hp ls h i), wp_bind]
    refine (k x List.mem_cons_self ls h i).mono fun f h1 q => ?_
    rcases q with ⟨q1, rfl, q3⟩ | ⟨q1, ls1, rfl, q3⟩
    · exact .inl ⟨by rw [List.any_cons, q1]; rfl, rfl, q3⟩
    · refine (for_search hp q3 fun y hy => k y (List.mem_cons_of_mem _ hy)).mono fun f h2 z => ?_
      rw [List.any_cons, q1, Bool.false_or]
      exact z
/-- a worth that is too great -/
def tooB (S W : List Int) (a b w : Int) (T : List Int) (j i : Nat) : Bool := decide (T.getD j 0 > T.getD i 0 + lcost S W a b w i j)
def tooV (S W : List Int) (a b w : Int) (T : List Int) (v : Val) : Bool := (rangeL 0 (getI v).toNat).any fun u => tooB S W a b w T (getI v).toNat (getI u).toNat
def worthsB (S W : List Int) (a b w : Int) (v : Val) : Bool := numsB v && ((items v).length == S.length) && (((items v).map getI).getD 0 0 == 0) && !((rangeL 1 (S.length - 1)).any (tooV S W a b w ((items v).map getI)))
theorem worths_ok {i ia il : Nat} (e : G i = some (F_are_worths ia il)) (ea : G ia = some F_are_numbers) (el : G il = some F_line_cost) {S W : List Int} {a b w : Int} {v : Val} {h : Heap} (hS : 2 ≤ S.length) (hS2 : S.length ≤ 1000000) (hW : S.length ≤ W.length + 2)
    (av : okA v = true) (l : ∀ xs, v = .tup xs → xs.length ≤ SL) : callN G (k + 2) i [.list (S.map .int), .tup (W.map .int), .tup [.int a, .int b, .int w], v] h = .ok (.bool (worthsB S W a b w v)) h := by
  rw [call_succ e]
  refine run_pure rfl rfl rfl ?_
  show Wp (evB _ (B_are_worths ia il) [some (.list (S.map .int)), some (.tup (W.map .int)), some (.tup [.int a, .int b, .int w]), some v, none, none] h) _
  refine wp_seq ?_
  decreasing_trivial
  rw [nums_ok ea av l]
  decreasing_trivial
  unfold worthsB
  cases hn : numsB v with
  | false =>
    decreasing_trivial
    simp only [Bool.not_false, if_tt, if_true, Bool.false_and, wp_ok, truth_bool]
    refine wp_one ?_
    decreasing_trivial
    get_elem_tactic_trivial
  | true =>
    cases v with
    | tup xs =>
      obtain ⟨T, rfl⟩ := all_ints hn
      decreasing_trivial
      simp only [Bool.not_true, if_ff, if_false, Bool.true_and, items, getI_map]
      decreasing_trivial
      have el1 : ((((T.map Val.int).length : Nat) : Int) == (((S.map Val.int).length : Nat) : Int)) = (T.length == S.length) := by
        rw [List.length_map, List.length_map, Bool.eq_iff_iff, beq_iff_eq, beq_iff_eq]
        exact Int.ofNat_inj
      have el2 : ((T.map Val.int).length == S.length) = (T.length == S.length) := by rw [List.length_map]
      rw [el1, el2]
      by_cases hl : T.length = S.length
      · have hlb : (T.length == S.length) = true := by simpa using hl
        rw [hlb]
        decreasing_trivial
        simp only [Bool.not_true, if_ff, if_false, Bool.true_and]
        rw [atI_getD (z := 0) (n := 0) rfl (by omega)]
        decreasing_trivial
        cases h0 : (T.getD 0 0 == 0) with
        | false =>
          simp only [Bool.not_false, if_tt, if_true, Bool.false_and]
          refine wp_one ?_
          decreasing_trivial
          get_elem_tactic_trivial
        | true =>
          simp only [Bool.not_true, if_ff, if_false, Bool.true_and, b_nil, wp_ok]
          refine wp_seq ?_
          decreasing_trivial
          have RLv : RL = 1000000000 := RL_eq
          rw [range_two (by omega) (by omega) (by omega) (by rw [List.length_map]; omega)]
          have en : (((((S.map Val.int).length : Nat) : Int) - 1).toNat) = S.length - 1 := by rw [List.length_map]; omega
          decreasing_trivial
          rw [en]
          refine (for_search (p := tooV S W a b w T) (v := .bool false) (R := fun h' => h' = h) (I := fun ls' h' => h' = h ∧ ∃ x y, ls' = [some (.list (S.map .int)), some (.tup (W.map .int)), some (.tup [.int a, .int b, .int w]), some (.tup (T.map .int)), x, y]) (fun _ _ _ => rfl) ⟨rfl, _, _, rfl⟩ (fun x hx ls' h' ⟨e1, y, z, e2⟩ => ?_)).mono fun f h1 q => ?_
          · subst e1 e2
            obtain ⟨j, rfl, j1, j2⟩ := rangeL_mem hx
            decreasing_trivial
            refine wp_one ?_
            decreasing_trivial
            rw [range_one (by omega) (by omega)]
            decreasing_trivial
            refine (for_search (p := fun u => tooB S W a b w T j.toNat (getI u).toNat) (v := .bool false) (R := fun h'' => h'' = h') (I := fun ls' h'' => h'' = h' ∧ ∃ y, ls' = [some (.list (S.map .int)), some (.tup (W.map .int)), some (.tup [.int a, .int b, .int w]), some (.tup (T.map .int)), some (.int j), y]) (fun _ _ _ => rfl) ⟨rfl, _, rfl⟩ (fun x hx ls' h'' ⟨e1, y, e2⟩ => ?_)).mono fun f h1 q => ?_
            · subst e1 e2
              obtain ⟨s, rfl, s1, s2⟩ := rangeL_mem hx
              decreasing_trivial
              refine wp_one ?_
              decreasing_trivial
              rw [atI_getD (n := j.toNat) (by omega) (by omega)]
              decreasing_trivial
              rw [atI_getD (n := s.toNat) (by omega) (by omega)]
              decreasing_trivial
              rw [line_ok (k := k) el (s := s.toNat) (t := j.toNat) (by omega) (by omega) (by omega) (by omega) (fun z => ⟨by omega, by omega⟩)]
              decreasing_trivial
              refine wp_if (fun q => ?_) fun q => ?_
              · refine wp_one ?_
                decreasing_trivial
                exact .inl ⟨q, trivial, trivial⟩
              · simp only [b_nil, wp_ok]
                exact .inr ⟨q, _, rfl, trivial, _, rfl⟩
            · rcases q with ⟨q1, rfl, rfl⟩ | ⟨q1, ls1, rfl, rfl, y, rfl⟩
              · exact .inl ⟨q1, rfl, rfl⟩
              · exact .inr ⟨q1, _, rfl, rfl, _, _, rfl⟩
          · rcases q with ⟨q1, rfl, rfl⟩ | ⟨q1, ls1, rfl, rfl, x, y, rfl⟩
            · rw [q1]
              exact pr_ret rfl
            · rw [q1]
              refine wp_one ?_
              decreasing_trivial
              get_elem_tactic_trivial
      · have hlb : (T.length == S.length) = false := by simpa using hl
        rw [hlb]
        decreasing_trivial
        simp only [Bool.not_false, if_tt, if_true, Bool.false_and, wp_ok, truth_bool]
        refine wp_one ?_
        decreasing_trivial
        get_elem_tactic_trivial
    | _ => cases hn

/-! ### the checker -/
def holdsB (ls W : List Int) (a b w : Int) (v : Val) : Bool := match v with
  | .tup [x, y] => breaksB ls.length x && worthsB (scanI 0 ls) W a b w y && (bco (scanI 0 ls) W a b w 0 (stopsOf (scanI 0 ls) ((items x).map getI)) == ((items y).map getI).getLast?.getD 0)
  | _ => false
theorem holdsB_pair (ls W : List Int) (a b w : Int) (x y : Val) : holdsB ls W a b w (.tup [x, y]) = (breaksB ls.length x && worthsB (scanI 0 ls) W a b w y && (bco (scanI 0 ls) W a b w 0 (stopsOf (scanI 0 ls) ((items x).map getI)) == ((items y).map getI).getLast?.getD 0)) := rfl
theorem len_eq2 (xs : List Val) : (((xs.length : Nat) : Int) == 2) = decide (xs.length = 2) := by
  by_cases z : xs.length = 2
  · rw [z]; rfl
  · rw [decide_eq_false z, beq_eq_false_iff_ne]
    intro q
    exact z (by omega)
theorem holds_ok {i ib iw ic is ia il : Nat} (e : G i = some (F_least_holds ib iw ic is)) (eb : G ib = some (F_are_breaks ia)) (ew : G iw = some (F_are_worths ia il)) (ec : G ic = some (F_breaks_cost il)) (es : G is = some F_sums_of) (ea : G ia = some F_are_numbers) (el : G il = some F_line_cost)
    {ls W : List Int} {a b w : Int} {v : Val} {h : Heap} (h1 : 1 ≤ ls.length) (h2 : ls.length ≤ 100000) (hW : ls.length ≤ W.length + 1) (av : okA v = true) (lv : wt v ≤ 1000000) :
    callN G (k + 3) i [.tup (ls.map .int), .tup (W.map .int), v, .int a, .int b, .int w] h = .ok (.bool (holdsB ls W a b w v)) h := by
  rw [call_succ e]
  refine run_pure rfl rfl rfl ?_
  show Wp (evB _ (B_least_holds ib iw ic is) [some (.tup (ls.map .int)), some (.tup (W.map .int)), some v, some (.int a), some (.int b), some (.int w), none, none, none, none] h) _
  have sl : (scanI 0 ls).length = ls.length + 1 := scanI_len _ _
  have SLv : SL = 16777216 := rfl
  have wtl : ∀ xs : List Val, xs.length ≤ wts xs := fun xs => by
    induction xs with
    | nil => exact Nat.zero_le _
    | cons x r ih => show r.length + 1 ≤ wt x + 2 + wts r; omega
  refine wp_seq ?_
  decreasing_trivial
  rw [sums_ok (k := k + 1) es (by omega)]
  decreasing_trivial
  refine wp_seq ?_
  decreasing_trivial
  rw [p_isi3 av]
  decreasing_trivial
  cases v with
  | tup xs =>
    simp only [isT, Bool.not_true, if_ff, if_false]
    decreasing_trivial
    simp only [len_eq2]
    by_cases h2 : xs.length = 2
    · obtain ⟨x, y, rfl⟩ : ∃ x y, xs = [x, y] := by
        match xs, h2 with
        | [x, y], _ => exact ⟨x, y, rfl⟩
      have ax : okA x = true := okAs_mem av x (by simp)
      have ay : okA y = true := okAs_mem av y (by simp)
      have lw : wt x + 2 + (wt y + 2 + 0) + 3 ≤ 1000000 := lv
      have lx : ∀ zs, x = .tup zs → zs.length ≤ SL := fun zs z => by
        have : wt x = wts zs + 3 := by rw [z]; rfl
        have := wtl zs
        omega
      have ly : ∀ zs, y = .tup zs → zs.length ≤ SL := fun zs z => by
        have : wt y = wts zs + 3 := by rw [z]; rfl
        have := wtl zs
        omega
      simp only [List.length_cons, List.length_nil, decide_true, Bool.not_true, truth_bool, wp_ok, if_ff, if_false, b_nil]
      decreasing_trivial
      refine wp_seq ?_
      decreasing_trivial
      refine wp_seq ?_
      decreasing_trivial
      rw [breaks_ok (k := k) eb ea ax lx]
      decreasing_trivial
      rw [List.length_map]
      rw [holdsB_pair]
      cases hb : breaksB ls.length x with
      | false =>
        decreasing_trivial
        simp only [Bool.not_false, if_tt, if_true, Bool.false_and, wp_ok, truth_bool]
        refine wp_one ?_
        decreasing_trivial
        get_elem_tactic_trivial
      | true =>
        decreasing_trivial
        simp only [Bool.not_true, if_ff, if_false, Bool.true_and]
        decreasing_trivial
        rw [worths_ok (k := k) ew ea el (by omega) (by omega) (by omega) ay ly]
        decreasing_trivial
        cases hw : worthsB (scanI 0 ls) W a b w y with
        | false =>
          simp only [Bool.not_false, if_tt, if_true, Bool.false_and]
          refine wp_one ?_
          decreasing_trivial
          get_elem_tactic_trivial
        | true =>
          simp only [Bool.not_true, if_ff, if_false, Bool.true_and, b_nil, wp_ok]
          have hb' := hb
          have hw' := hw
          unfold breaksB at hb'
          unfold worthsB at hw'
          simp only [Bool.and_eq_true] at hb' hw'
          cases x with
          | tup bs =>
            cases y with
            | tup ws =>
              obtain ⟨B, rfl⟩ := all_ints hb'.1.1
              obtain ⟨T, rfl⟩ := all_ints hw'.1.1.1
              have lT : T.length = ls.length + 1 := by
                have := hw'.1.1.2
                simp only [items, List.length_map, beq_iff_eq] at this
                omega
              have bb : ∀ x ∈ B, 0 ≤ x ∧ x < ((scanI 0 ls).length : Int) - 2 := fun x hx => by
                have := (List.all_eq_true.mp hb'.1.2) (.int x) (List.mem_map.mpr ⟨x, hx, rfl⟩)
                rw [Bool.and_eq_true, decide_eq_true_eq, decide_eq_true_eq] at this
                have : 0 ≤ x ∧ x < (ls.length : Int) - 1 := this
                omega
              have lB : B.length ≤ 1000000 := by
                have := lx _ rfl
                have q : wt (.tup (B.map Val.int)) = wts (B.map Val.int) + 3 := rfl
                have := wtl (B.map Val.int)
                rw [List.length_map] at this
                omega
              refine wp_one ?_
              decreasing_trivial
              rw [bcost_ok (k := k) ec el (by omega) (by omega) (by omega) bb lB]
              decreasing_trivial
              obtain ⟨t, ht⟩ : ∃ t, T.getLast? = some t := by
                cases T with
                | nil => simp at lT
                | cons z r => exact ⟨_, List.getLast?_cons⟩
              rw [atI_last' (show (T.map Val.int).getLast? = some (.int t) by rw [List.getLast?_map, ht]; rfl)]
              decreasing_trivial
              simp only [items, getI_map, ht, Option.getD_some]
              get_elem_tactic_trivial
            | _ => cases hw'.1.1.1
          | _ => cases hb'.1.1
    · simp only [decide_eq_false h2, Bool.not_false, truth_bool, wp_ok, if_tt, if_true]
      have e2 : holdsB ls W a b w (.tup xs) = false := by
        unfold holdsB
        split
        · rename_i q
          cases q
          exact absurd rfl h2
        · rfl
      rw [e2]
      refine wp_one ?_
      decreasing_trivial
      get_elem_tactic_trivial
  | _ =>
    first
      | (cases av; done)
      | (simp only [isT, Bool.not_false, if_tt, if_true, wp_ok, truth_bool]
         refine wp_one ?_
         decreasing_trivial
         exact pr_ret rfl)
end
end M
namespace M
open PySem
/-! ### the least of some numbers -/
theorem minI_le : ∀ (l : List Int) (a : Int), minI a l ≤ a ∧ ∀ x ∈ l, minI a l ≤ x
  | [], a => ⟨Int.le_refl _, by simp⟩
  | x :: r, a => by
    have ih := minI_le r (if x < a then x else a)
    show minI (if x < a then x else a) r ≤ a ∧ ∀ y ∈ x :: r, minI (if x < a then x else a) r ≤ y
    refine ⟨?_, fun y hy => ?_⟩
    · have := ih.1; split at this <;> split <;> omega
    · rcases List.mem_cons.mp hy with rfl | hy
      · have := ih.1; split at this <;> split <;> omega
      · exact ih.2 y hy
theorem minI_mem : ∀ (l : List Int) (a : Int), minI a l ∈ a :: l
  | [], a => by simp [minI]
  | x :: r, a => by
    have ih := minI_mem r (if x < a then x else a)
    show minI (if x < a then x else a) r ∈ a :: x :: r
    rcases List.mem_cons.mp ih with h | h
    · rw [h]; split <;> simp
    · exact List.mem_cons_of_mem _ (List.mem_cons_of_mem _ h)
theorem minI_eq {l : List Int} {a b : Int} (h : ∀ x ∈ a :: l, b ≤ x) (m : b ∈ a :: l) : minI a l = b := by
  have h1 := h _ (minI_mem l a)
  have h2 : minI a l ≤ b := by
    rcases List.mem_cons.mp m with e | m
    · rw [e]; exact (minI_le l a).1
    · exact (minI_le l a).2 b m
  omega
theorem intsOf_map (is : List Int) : intsOf (is.map Val.int) = some is := by
  induction is with
  | nil => rfl
  | cons i r ih => show (intsOf (r.map Val.int)).map (i :: ·) = _; rw [ih]; rfl
theorem p_min_eq {l : List Int} {b : Int} {h : Heap} (hl : ∀ x ∈ l, b ≤ x) (m : b ∈ l) : evP .min1 [.list (l.map .int)] h = .ok (.int b) h := by
  cases l with
  | nil => cases m
  | cons a r =>
    show (match (some ((a :: r).map Val.int)).bind intsOf with
      | some (i :: r) => Res.ok (Val.int (minI i r)) h
      | _ => .stuck : Res Val) = _
    rw [Option.bind_some, intsOf_map]
    show Res.ok (Val.int (minI a r)) h = _
    rw [minI_eq hl m]
/-! ### ways of least cost -/
structure IsB (c : Nat → Nat → Int) (m : Nat) (B : Nat → Int) : Prop where
  z : B m = 0
  le : ∀ i j, i < j → j ≤ m → B i ≤ c i j + B j
  ex : ∀ i, i < m → ∃ j, i < j ∧ j ≤ m ∧ B i = c i j + B j
structure IsF (c : Nat → Nat → Int) (m : Nat) (F : Nat → Int) : Prop where
  z : F 0 = 0
  le : ∀ i j, i < j → j ≤ m → F j ≤ F i + c i j
  ex : ∀ j, 0 < j → j ≤ m → ∃ i, i < j ∧ F j = F i + c i j
theorem exists_min (f : Nat → Int) : ∀ n : Nat, ∃ t, t ≤ n ∧ ∀ s, s ≤ n → f t ≤ f s
  | 0 => ⟨0, Nat.le_refl _, fun s h => by rw [Nat.le_zero.mp h]; exact Int.le_refl _⟩
  | n + 1 => by
    obtain ⟨t, h1, h2⟩ := exists_min f n
    by_cases q : f t ≤ f (n + 1)
    · refine ⟨t, by omega, fun s hs => ?_⟩
      by_cases e : s = n + 1
      · rw [e]; exact q
      · exact h2 s (by omega)
    · refine ⟨n + 1, Nat.le_refl _, fun s hs => ?_⟩
      by_cases e : s = n + 1
      · rw [e]; exact Int.le_refl _
      · have := h2 s (by omega); omega
theorem isB_ex (c : Nat → Nat → Int) (m : Nat) : ∃ B, IsB c m B := by
  have go : ∀ r, r ≤ m → ∃ B : Nat → Int, B m = 0 ∧ (∀ i j, m - r ≤ i → i < j → j ≤ m → B i ≤ c i j + B j) ∧ ∀ i, m - r ≤ i → i < m → ∃ j, i < j ∧ j ≤ m ∧ B i = c i j + B j := by
    intro r
    induction r with
    | zero => exact fun _ => ⟨fun _ => 0, rfl, fun i j h1 h2 h3 => by omega, fun i h1 h2 => by omega⟩
    | succ r ih =>
      intro hr
      obtain ⟨B, b1, b2, b3⟩ := ih (by omega)
      obtain ⟨t, t1, t2⟩ := exists_min (fun t => c (m - (r + 1)) (m - r + t) + B (m - r + t)) r
      refine ⟨fun i => if i = m - (r + 1) then c (m - (r + 1)) (m - r + t) + B (m - r + t) else B i, ?_, fun i j h1 h2 h3 => ?_, fun i h1 h2 => ?_⟩
      · simp only
        rw [if_neg (by omega)]; exact b1
      · simp only
        rw [if_neg (show ¬ j = m - (r + 1) by omega)]
        by_cases q : i = m - (r + 1)
        · rw [if_pos q, q]
          have := t2 (j - (m - r)) (by omega)
          have e : m - r + (j - (m - r)) = j := by omega
          simp only [e] at this
          exact this
        · rw [if_neg q]; exact b2 i j (by omega) h2 h3
      · simp only
        by_cases q : i = m - (r + 1)
        · refine ⟨m - r + t, by omega, by omega, ?_⟩
          rw [if_pos q, if_neg (by omega), q]
        · obtain ⟨j, j1, j2, j3⟩ := b3 i (by omega) h2
          refine ⟨j, j1, j2, ?_⟩
          rw [if_neg q, if_neg (by omega)]; exact j3
  obtain ⟨B, b1, b2, b3⟩ := go m (Nat.le_refl _)
  exact ⟨B, b1, fun i j => b2 i j (by omega), fun i => b3 i (by omega)⟩
theorem isF_ex (c : Nat → Nat → Int) (m : Nat) : ∃ F, IsF c m F := by
  have go : ∀ r, ∃ F : Nat → Int, F 0 = 0 ∧ (∀ i j, i < j → j ≤ r → F j ≤ F i + c i j) ∧ ∀ j, 0 < j → j ≤ r → ∃ i, i < j ∧ F j = F i + c i j := by
    intro r
    induction r with
    | zero => exact ⟨fun _ => 0, rfl, fun i j h1 h2 => by omega, fun j h1 h2 => by omega⟩
    | succ r ih =>
      obtain ⟨F, b1, b2, b3⟩ := ih
      obtain ⟨t, t1, t2⟩ := exists_min (fun t => F t + c t (r + 1)) r
      refine ⟨fun j => if j = r + 1 then F t + c t (r + 1) else F j, ?_, fun i j h1 h2 => ?_, fun j h1 h2 => ?_⟩
      · simp only
        rw [if_neg (by omega)]; exact b1
      · simp only
        rw [if_neg (show ¬ i = r + 1 by omega)]
        by_cases q : j = r + 1
        · rw [if_pos q, q]; exact t2 i (by omega)
        · rw [if_neg q]; exact b2 i j h1 (by omega)
      · simp only
        by_cases q : j = r + 1
        · refine ⟨t, by omega, ?_⟩
          rw [if_pos q, if_neg (by omega), q]
        · obtain ⟨i, i1, i2⟩ := b3 j h1 (by omega)
          refine ⟨i, i1, ?_⟩
          rw [if_neg q, if_neg (by omega)]; exact i2
  obtain ⟨F, b1, b2, b3⟩ := go m
  exact ⟨F, b1, b2, b3⟩
theorem fb_eq {c : Nat → Nat → Int} {m : Nat} {B F : Nat → Int} (hB : IsB c m B) (hF : IsF c m F) : F m = B 0 := by
  have le : ∀ r i, i ≤ m → m - i ≤ r → F m ≤ F i + B i := by
    intro r
    induction r with
    | zero =>
      intro i h1 h2
      have e : i = m := by omega
      rw [e, hB.z]; omega
    | succ r ih =>
      intro i h1 h2
      by_cases q : i = m
      · rw [q, hB.z]; omega
      · obtain ⟨j, j1, j2, j3⟩ := hB.ex i (by omega)
        have := ih j j2 (by omega)
        have := hF.le i j j1 j2
        omega
  have ge : ∀ r j, j ≤ m → j ≤ r → B 0 ≤ F j + B j := by
    intro r
    induction r with
    | zero =>
      intro j h1 h2
      have e : j = 0 := by omega
      rw [e, hF.z]; omega
    | succ r ih =>
      intro j h1 h2
      by_cases q : j = 0
      · rw [q, hF.z]; omega
      · obtain ⟨i, i1, i2⟩ := hF.ex j (by omega) h1
        have := ih i (by omega) (by omega)
        have := hB.le i j i1 h1
        omega
  have h1 := le m 0 (by omega) (by omega)
  have h2 := ge m m (by omega) (by omega)
  rw [hF.z] at h1
  rw [hB.z] at h2
  omega
/-- the stops of the first way of least cost -/
inductive Br (c : Nat → Nat → Int) (m : Nat) (B : Nat → Int) : Nat → List Nat → Prop
  | nil {s : Nat} : s < m → c s m ≤ B s → Br c m B s []
  | cons {s t : Nat} {l : List Nat} : s < t → t < m → B s < c s m → (∀ u, s < u → u < t → B s < c s u + B u) → c s t + B t ≤ B s → Br c m B t l → Br c m B s (t :: l)
theorem Br.det {c : Nat → Nat → Int} {m : Nat} {B : Nat → Int} : ∀ {s : Nat} {l l' : List Nat}, Br c m B s l → Br c m B s l' → l = l'
  | _, _, _, .nil _ _, .nil _ _ => rfl
  | _, _, _, .nil _ h, .cons _ _ h' _ _ _ => by omega
  | _, _, _, .cons _ _ h' _ _ _, .nil _ h => by omega
  | _, _, _, .cons (t := t) a1 a2 a3 a4 a5 a6, .cons (t := t') b1 b2 b3 b4 b5 b6 => by
    have e : t = t' := by
      rcases Nat.lt_trichotomy t t' with q | q | q
      · have := b4 t a1 q; omega
      · exact q
      · have := a4 t' b1 q; omega
    subst e
    rw [Br.det a6 b6]
theorem Br.mem {c : Nat → Nat → Int} {m : Nat} {B : Nat → Int} : ∀ {s : Nat} {l : List Nat}, Br c m B s l → ∀ t ∈ l, s < t ∧ t < m
  | _, _, .nil _ _, t, h => by cases h
  | _, _, .cons a1 a2 _ _ _ a6, t, h => by
    rcases List.mem_cons.mp h with rfl | h
    · exact ⟨a1, a2⟩
    · have := a6.mem t h
      exact ⟨by omega, this.2⟩
theorem Br.len {c : Nat → Nat → Int} {m : Nat} {B : Nat → Int} : ∀ {s : Nat} {l : List Nat}, Br c m B s l → l.length + s < m
  | _, _, .nil h _ => by simpa using h
  | _, _, .cons a1 a2 _ _ _ a6 => by have := a6.len; simp only [List.length_cons]; omega
def risingN : List Nat → Prop
  | a :: b :: r => a < b ∧ risingN (b :: r)
  | _ => True
theorem Br.rising {c : Nat → Nat → Int} {m : Nat} {B : Nat → Int} : ∀ {s : Nat} {l : List Nat}, Br c m B s l → risingN l
  | _, _, .nil _ _ => trivial
  | _, _, .cons _ _ _ _ _ (.nil _ _) => trivial
  | _, _, .cons _ _ _ _ _ (.cons a1 a2 a3 a4 a5 a6) => ⟨a1, Br.rising (.cons a1 a2 a3 a4 a5 a6)⟩
theorem Br.cost {S W : List Int} {a b w : Int} {m : Nat} {B : Nat → Int} (hB : IsB (lcost S W a b w) m B) : ∀ {s : Nat} {l : List Nat}, Br (lcost S W a b w) m B s l → bco S W a b w s (l ++ [m]) = B s
  | s, _, .nil h1 h2 => by
    have := hB.le s m h1 (Nat.le_refl _)
    have z := hB.z
    show lcost S W a b w s m + 0 = B s
    omega
  | s, _, .cons (t := t) (l := l) a1 a2 a3 a4 a5 a6 => by
    have ih := a6.cost hB
    have := hB.le s t a1 (by omega)
    show lcost S W a b w s t + bco S W a b w t (l ++ [m]) = B s
    rw [ih]
    omega
/-- there is such a way, and each one that is begun goes on -/
theorem Br.next {c : Nat → Nat → Int} {m : Nat} {B : Nat → Int} (hB : IsB c m B) {s : Nat} (hs : s < m) (h : B s < c s m) : ∃ t, s < t ∧ t < m ∧ c s t + B t ≤ B s := by
  obtain ⟨j, j1, j2, j3⟩ := hB.ex s hs
  refine ⟨j, j1, ?_, by omega⟩
  by_cases e : j = m
  · rw [e, hB.z] at j3; omega
  · omega
theorem least_nat {P : Nat → Prop} (n : Nat) (h : P n) : ∃ t, P t ∧ t ≤ n ∧ ∀ u, u < t → ¬ P u := by
  induction n using Nat.strongRecOn with
  | ind n ih =>
    by_cases q : ∃ u, u < n ∧ P u
    · obtain ⟨u, u1, u2⟩ := q
      obtain ⟨t, t1, t2, t3⟩ := ih u u1 u2
      exact ⟨t, t1, by omega, t3⟩
    · exact ⟨n, h, Nat.le_refl _, fun u hu hp => q ⟨u, hu, hp⟩⟩
theorem Br.ex {c : Nat → Nat → Int} {m : Nat} {B : Nat → Int} (hB : IsB c m B) : ∀ (r s : Nat), s < m → m - s ≤ r → ∃ l, Br c m B s l := by
  intro r
  induction r with
  | zero => intro s h1 h2; omega
  | succ r ih =>
    intro s h1 h2
    by_cases q : c s m ≤ B s
    · exact ⟨[], .nil h1 q⟩
    · obtain ⟨t, t1, t2, t3⟩ := Br.next hB h1 (by omega)
      obtain ⟨u, ⟨u1, u2⟩, u3, u4⟩ := least_nat (P := fun t => s < t ∧ c s t + B t ≤ B s) t ⟨t1, t3⟩
      obtain ⟨l, hl⟩ := ih u (by omega) (by omega)
      refine ⟨u :: l, .cons u1 (by omega) (by omega) (fun v v1 v2 => ?_) u2 hl⟩
      have := u4 v v2
      simp only [not_and, Int.not_le] at this
      exact this v1
/-! ### while -/
theorem wh_ok {test : Loc → Heap → Res Bool} {step : Loc → Heap → Res Flow} {I : Nat → Loc → Heap → Prop} {Q : Flow → Heap → Prop} (k : ∀ n ls h, I n ls h → Wp (test ls h) fun b h' => if b = true then Wp (step ls h') (fun f h'' => match f with
    | .nx ls' => ∃ n', n' < n ∧ I n' ls' h''
    | .ret v => Q (.ret v) h''
    | .brk ls' => Q (.nx ls') h'') else Q (.nx ls) h') : ∀ {N n : Nat} {ls : Loc} {h : Heap}, n < N → I n ls h → Wp (whL test step N ls h) Q := by
  intro N
  induction N with
  | zero => intro n ls h hn; omega
  | succ N ih =>
    intro n ls h hn i
    unfold whL
    rw [wp_bind]
    refine (k n ls h i).mono fun b h1 q => ?_
    cases b with
    | false =>
      rw [if_neg (by decide)] at q ⊢
      exact q
    | true =>
      rw [if_pos rfl] at q
      rw [if_pos rfl, wp_bind]
      refine q.mono fun f h2 z => ?_
      cases f with
      | nx ls1 =>
        obtain ⟨n', h3, h4⟩ := z
        exact ih (by omega) h4
      | ret v => exact z
      | brk ls1 => exact z
/-! ### dicts -/
theorem lookD_map {f : Int → Val} {i : Int} : ∀ {ks : List Int}, i ∈ ks → lookD (ks.map .int) (ks.map f) (.int i) = some (f i)
  | k :: r, h => by
    show (if Val.same (.int k) (.int i) then some (f k) else lookD (r.map .int) (r.map f) (.int i)) = _
    have e : Val.same (.int k) (.int i) = (k == i) := rfl
    rw [e]
    by_cases q : k = i
    · subst q; simp
    · rw [if_neg (by simpa using q)]
      exact lookD_map ((List.mem_cons.mp h).resolve_left fun z => q z.symm)
theorem hasD_not {i : Int} : ∀ {ks : List Int}, i ∉ ks → hasD (ks.map .int) (.int i) = false
  | [], _ => rfl
  | k :: r, h => by
    have h1 : ¬ k = i := fun z => h (by rw [z]; exact List.mem_cons_self)
    have ih := hasD_not (i := i) (ks := r) fun z => h (List.mem_cons_of_mem _ z)
    unfold hasD at ih ⊢
    rw [List.map_cons, List.any_cons, ih]
    show (k == i || false) = false
    simpa using h1
theorem put_new {f : Int → Val} {i : Int} {ks : List Int} (h : i ∉ ks) : putKs (ks.map .int) (.int i) = (ks ++ [i]).map .int ∧ putVs (ks.map .int) (ks.map f) (.int i) (f i) = (ks ++ [i]).map f := by
  unfold putKs putVs
  rw [hasD_not h]
  simp
theorem p_dget_val {ks vs : List Val} {q v : Val} {h : Heap} (hk : okKey q = true) (e : lookD ks vs q = some v) : evP .dget [.dict ks vs, q] h = .ok v h := by
  show (if okKey q then (match lookD ks vs q with
    | some v => .ok v h
    | none => .stuck) else .stuck : Res Val) = _
  rw [if_pos hk, e]
theorem p_dget_ref {n : Nat} {ks vs : List Val} {q v : Val} {h : Heap} (hn : h[n]? = some (.dict ks vs)) (hk : okKey q = true) (e : lookD ks vs q = some v) : evP .dget [.ref n, q] h = .ok v h := by
  have d : dr h (.ref n) = some (.dict ks vs) := by
    show (match h[n]? with
      | some (.list xs) => some (Val.list xs)
      | some (.dict ks vs) => some (.dict ks vs)
      | _ => none) = _
    rw [hn]
  show (match dr h (.ref n) with
    | some (.dict ks vs) => if okKey q then (match lookD ks vs q with
      | some v => .ok v h
      | none => .stuck) else .stuck
    | _ => .stuck : Res Val) = _
  rw [d]
  simp only
  rw [if_pos hk, e]
theorem frz_dict {n : Nat} {ks vs : List Val} {h : Heap} (e : h[n]? = some (.dict ks vs)) : frzV (.ref n) h = .ok (.dict ks vs) (h.set n .dead) := by
  unfold frzV
  simp only [e]
section
variable (cl : CallFn) (ls : Loc) (h : Heap)
theorem st_dk (v : Val) (a i : ME) : stoTg cl v (.dk a i) ls h = (evE cl a ls h).bind fun x h => (evE cl i ls h).bind fun q h => ref1S x h fun n => dct1S h n fun ks vs => if okKey q && decide (ks.length < SL) then .ok ls (h.set n (.dict (putKs ks q) (putVs ks vs q v))) else .stuck := rfl
theorem r1S_ref {A : Type} (n : Nat) (f : Nat → Res A) : ref1S (.ref n) h f = f n := rfl
theorem p_dict0m : evP (.dict0 true) [] h = .ok (.ref h.length) (h ++ [.dict [] []]) := rfl
theorem p_dict1m (k v : Val) (hk : okKey k = true) : evP (.dict1 true) [k, v] h = .ok (.ref h.length) (h ++ [.dict [k] [v]]) := by
  show (if okKey k then _ else _) = _
  rw [if_pos hk]
  rfl
end
theorem s_dput {cl : CallFn} {ls : Loc} {h h1 : Heap} {a i e : ME} {n : Nat} {q v : Val} {ks vs : List Val} (he : evE cl e ls h = .ok v h1) (ha : evE cl a ls h1 = .ok (.ref n) h1) (hi : evE cl i ls h1 = .ok q h1) (hn : h1[n]? = some (.dict ks vs)) (hk : okKey q = true) (l : ks.length < SL) :
    evS cl (.asg [.dk a i] e) ls h = .ok (.nx ls) (h1.set n (.dict (putKs ks q) (putVs ks vs q v))) := by
  rw [s_asg, he, bind_ok, st_cons, st_dk, ha, bind_ok, hi, bind_ok, r1S_ref]
  have e2 : (dct1S h1 n fun ks vs => if okKey q && decide (ks.length < SL) then .ok ls (h1.set n (.dict (putKs ks q) (putVs ks vs q v))) else .stuck : Res Loc) = .ok ls (h1.set n (.dict (putKs ks q) (putVs ks vs q v))) := by
    unfold dct1S
    rw [hn]
    simp only
    rw [if_pos (by rw [hk, decide_eq_true l]; rfl)]
  rw [e2]
  rfl
theorem comp_at {cl : CallFn} {ls : Loc} {h : Heap} {m : Bool} {own : List Nat} {t : Tg} {i : MI} {cs : List ME} {e : ME} {l : List Val} {pin : Pin} (hi : evI cl i ls h = .ok (l, pin) h) : evE cl (.comp m own t i cs e) ls h = (turns pin (fun v h => match setTg t v (killL own ls) with
    | some ls => (evC cl cs ls h).bind fun b h => if b then (evE cl e ls h).bind fun v h => .ok [v] h else .ok [] h
    | none => .stuck) l h).bind fun vs h => okList m vs h := by rw [e_comp, hi, bind_ok]; try rfl
theorem range2_at {cl : CallFn} {ls : Loc} {h : Heap} {a b : ME} {i j : Int} {l : List Val} (ha : evE cl a ls h = .ok (.int i) h) (hb : evE cl b ls h = .ok (.int j) h) (hr : itRange [.int i, .int j] = some l) : evI cl (.range [a, b]) ls h = .ok (l, none) h := by
  rw [i_range, es_cons, ha, bind_ok, es_cons, hb, bind_ok, es_nil, bind_ok, bind_ok, bind_ok, hr]
theorem range_down {i j : Int} (h1 : -RL ≤ i) (h2 : i ≤ RL) (h : -RL ≤ j) (h' : j ≤ RL) : itRange [.int i, .int j, .int (-1)] = some (rangeD i (i - j).toNat) := by
  rw [itR3]
  rw [if_pos ⟨h1, h2, h, h', rfl⟩]
theorem rangeL_nat : ∀ (n lo : Nat), rangeL (lo : Int) n = ((List.range n).map fun t : Nat => ((lo + t : Nat) : Int)).map Val.int
  | 0, lo => rfl
  | n + 1, lo => by
    show Val.int (lo : Int) :: rangeL ((lo : Int) + 1) n = _
    have e : ((lo : Int) + 1) = ((lo + 1 : Nat) : Int) := by omega
    rw [e, rangeL_nat n (lo + 1), List.range_succ_eq_map]
    simp only [List.map_cons, List.map_map]
    refine congr (congrArg List.cons (by simp)) (List.map_congr_left fun t _ => ?_)
    simp only [Function.comp]
    congr 1
    omega
end M
namespace M
open PySem
/-! ### helps for drawn things -/
def IntIn (lo hi : Int) (v : Val) : Prop := ∃ m : Int, v = .int m ∧ lo ≤ m ∧ m ≤ hi
theorem intIn {lo hi m : Int} (h1 : lo ≤ m) (h2 : m ≤ hi) : IntIn lo hi (.int m) := ⟨m, rfl, h1, h2⟩
/-- an item of a written list, each of which is such -/
theorem at_P {P : Val → Prop} {xs : List Val} {r : Int} (h0 : 0 ≤ r) (h1 : r < (xs.length : Int)) (h : ∀ x ∈ xs, P x) : ∃ x, atI xs r = some x ∧ P x := by
  obtain ⟨x, hx, e⟩ := atI_mem h0 h1
  exact ⟨x, e, h x hx⟩
theorem at_int {lo hi : Int} {xs : List Val} {r : Int} (h0 : 0 ≤ r) (h1 : r < (xs.length : Int)) (h : ∀ x ∈ xs, IntIn lo hi x) : ∃ m : Int, atI xs r = some (.int m) ∧ lo ≤ m ∧ m ≤ hi := by
  obtain ⟨x, e, m, rfl, h1, h2⟩ := at_P h0 h1 h
  exact ⟨m, e, h1, h2⟩
theorem all4 {P : Val → Prop} {a b c d : Val} (ha : P a) (hb : P b) (hc : P c) (hd : P d) : ∀ x ∈ [a, b, c, d], P x := by
  simp [ha, hb, hc, hd]
theorem all3 {P : Val → Prop} {a b c : Val} (ha : P a) (hb : P b) (hc : P c) : ∀ x ∈ [a, b, c], P x := by
  simp [ha, hb, hc]
theorem all2 {P : Val → Prop} {a b : Val} (ha : P a) (hb : P b) : ∀ x ∈ [a, b], P x := by
  simp [ha, hb]
theorem allc {P : Val → Prop} {a : Val} {r : List Val} (ha : P a) (hr : ∀ x ∈ r, P x) : ∀ x ∈ a :: r, P x := by
  intro x hx
  rcases List.mem_cons.mp hx with rfl | hx
  · exact ha
  · exact hr x hx
theorem alln {P : Val → Prop} : ∀ x ∈ ([] : List Val), P x := by simp
theorem F2.all {A B : Type} {P : B → Prop} : ∀ {as : List A} {bs : List B}, F2 (fun _ b => P b) as bs → ∀ b ∈ bs, P b
  | _, _, .nil, b, h => by cases h
  | _, _, .cons h t, b, hb => by
    rcases List.mem_cons.mp hb with rfl | hb
    · exact h
    · exact t.all b hb
/-- a comprehension whose turns draw -/
theorem comp_draw {step : Val → Heap → Res (List Val)} {rest h : Heap} {xs : List Val} {P : Val → Prop} {Q : List Val → Heap → Prop} (hd : Dk rest h)
    (k : ∀ x ∈ xs, ∀ h, Dk rest h → Wp (step x h) fun l h' => ∃ y, l = [y] ∧ P y ∧ Dk rest h')
    (q : ∀ l h', l.length = xs.length → (∀ x ∈ l, P x) → Dk rest h' → Q l h') : Wp (turns none step xs h) Q := by
  refine (turns_draw (I := Dk rest) (R := fun _ y => P y) hd fun x hx h hh => ?_).mono fun l h1 ⟨r, hd1⟩ => q l h1 r.len.symm r.all hd1
  exact (k x hx h hh).mono fun l h' ⟨y, e, p, d⟩ => ⟨⟨y, e, p⟩, d⟩
theorem ints_list {lo hi : Int} : ∀ {l : List Val}, (∀ x ∈ l, IntIn lo hi x) → ∃ is : List Int, l = is.map .int ∧ is.length = l.length ∧ ∀ x ∈ is, lo ≤ x ∧ x ≤ hi
  | [], _ => ⟨[], rfl, rfl, by simp⟩
  | v :: r, h => by
    obtain ⟨is, e, hl, hb⟩ := ints_list fun x hx => h x (List.mem_cons_of_mem _ hx)
    obtain ⟨m, rfl, h1, h2⟩ := h v List.mem_cons_self
    refine ⟨m :: is, by rw [e]; rfl, by simp [hl], fun x hx => ?_⟩
    rcases List.mem_cons.mp hx with rfl | hx
    · exact ⟨h1, h2⟩
    · exact hb x hx
theorem rangeL0_at {j : Int} (h : 0 ≤ j) (h' : j ≤ 1000000) : itRange [.int j] = some (rangeL 0 j.toNat) := by
  have : RL = 1000000000 := RL_eq
  exact range_one (by omega) (by omega)
theorem p_tupOf_l (s : List Val) (h : Heap) (l : s.length ≤ 1000000) : evP .tupOf [.list s] h = .ok (.tup s) h := by
  rw [p_tupOf_list, okTup_ok _ _ (Nat.le_trans l (by decide))]
theorem rangeL_cast (n : Nat) : rangeL 0 n = ((List.range n).map fun t : Nat => (t : Int)).map Val.int := by
  have := rangeL_nat n 0
  simpa using this
theorem wp_at {P : Val → Prop} {xs : List Val} {r : Int} {h : Heap} {Q : Val → Heap → Prop} (h0 : 0 ≤ r) (h1 : r < (xs.length : Int)) (hP : ∀ x ∈ xs, P x) (k : ∀ x, P x → Q x h) : Wp (optV (atI xs r) h) Q := by
  obtain ⟨x, e, p⟩ := at_P h0 h1 hP
  rw [e]
  exact k x p
theorem wp_atI (lo hi : Int) {xs : List Val} {r : Int} {h : Heap} {Q : Val → Heap → Prop} (h0 : 0 ≤ r) (h1 : r < (xs.length : Int)) (hP : ∀ x ∈ xs, IntIn lo hi x) (k : ∀ m : Int, lo ≤ m → m ≤ hi → Q (.int m) h) : Wp (optV (atI xs r) h) Q :=
  wp_at h0 h1 hP fun x ⟨m, e, a, b⟩ => by rw [e]; exact k m a b
theorem p_pow (i j : Int) (h : Heap) (h1 : 0 ≤ j) (h2 : j ≤ 1000) (h3 : small i = true) : evP .pow [.int i, .int j] h = .ok (.int (i ^ j.toNat)) h := by
  show (if 0 ≤ j ∧ j ≤ 1000 ∧ small i = true then _ else _) = _
  rw [if_pos ⟨h1, h2, h3⟩]
theorem p_pow6 (h : Heap) : evP .pow [.int 10, .int 6] h = .ok (.int 1000000) h := rfl
theorem wp_some {v : Val} {h : Heap} {Q : Val → Heap → Prop} {o : Option Val} (e : o = some v) (q : Q v h) : Wp (optV o h) Q := by rw [e]; exact q
theorem forL_nil (step : Val → Loc → Heap → Res Flow) (ls : Loc) (h : Heap) : forL none step [] ls h = .ok (.nx ls) h := rfl
theorem forL_cons (step : Val → Loc → Heap → Res Flow) (x : Val) (r : List Val) (ls : Loc) (h : Heap) : forL none step (x :: r) ls h = (step x ls h).bind fun f h => match f with
    | .nx ls => forL none step r ls h
    | .ret v => .ok (.ret v) h
    | .brk ls => .ok (.nx ls) h := rfl
theorem at_n {A : Type} {xs : List A} {n : Nat} {x : A} (h : xs[n]? = some x) : atI xs (n : Int) = some x := by
  have l := (List.getElem?_eq_some_iff.mp h).1
  unfold atI ixN
  rw [if_pos (by omega), if_pos (by omega), Option.bind_some, Int.toNat_natCast]
  exact h
theorem at_0 {A : Type} (x : A) (r : List A) : atI (x :: r) 0 = some x := at_n (n := 0) rfl
theorem at_1 {A : Type} (x y : A) (r : List A) : atI (x :: y :: r) 1 = some y := at_n (n := 1) rfl
theorem at_2 {A : Type} (x y z : A) (r : List A) : atI (x :: y :: z :: r) 2 = some z := at_n (n := 2) rfl
theorem at_3 {A : Type} (x y z u : A) (r : List A) : atI (x :: y :: z :: u :: r) 3 = some u := at_n (n := 3) rfl
theorem atI_ints {xs : List Int} {z : Int} (h : 0 ≤ z) (l : z < xs.length) : atI (xs.map Val.int) z = some (.int (xs.getD z.toNat 0)) :=
  atI_getD (n := z.toNat) (by omega) (by omega)
/-- one behind the other: what is had of the first, then the rest -/
theorem wp_then {cl : CallFn} {s : MS} {r : List MS} {ls : Loc} {h : Heap} {Q : Flow → Heap → Prop} (J : Loc → Heap → Prop) (w : Wp (evS cl s ls h) fun f h => match f with
    | .nx ls => J ls h
    | f => Q f h) (k : ∀ ls h, J ls h → Wp (evB cl r ls h) Q) : Wp (evB cl (s :: r) ls h) Q := by
  refine wp_seq (w.mono fun f h q => ?_)
  cases f with
  | nx ls => exact k ls h q
  | ret v => exact q
  | brk ls => exact q
/-- a while, or a for, by an invariant, draws within -/
theorem for_draw {step : Val → Loc → Heap → Res Flow} {I : Loc → Prop} {Q : Flow → Heap → Prop} {rest : Heap} {xs : List Val} {ls : Loc} {h : Heap} (hd : Dk rest h) (i : I ls)
    (k : ∀ x ∈ xs, ∀ ls h, I ls → Dk rest h → Wp (step x ls h) fun f h' => match f with
      | .nx ls => I ls ∧ Dk rest h'
      | .ret v => Q (.ret v) h'
      | .brk ls => Q (.nx ls) h') (d : ∀ ls h, I ls → Dk rest h → Q (.nx ls) h) : Wp (forL none step xs ls h) Q :=
  for_inv (I := fun ls h => I ls ∧ Dk rest h) (fun _ _ _ => rfl) ⟨i, hd⟩ (fun x hx ls h i => k x hx ls h i.1 i.2) fun ls h i => d ls h i.1 i.2
/-! ### data of no great size -/
theorem wts_le {c : Nat} : ∀ {xs : List Val}, (∀ x ∈ xs, wt x ≤ c) → wts xs ≤ xs.length * (c + 2)
  | [], _ => Nat.zero_le _
  | x :: r, h => by
    have h1 := h x List.mem_cons_self
    have h2 := wts_le (c := c) (xs := r) fun y hy => h y (List.mem_cons_of_mem _ hy)
    show wt x + 2 + wts r ≤ (r.length + 1) * (c + 2)
    rw [Nat.add_mul, Nat.one_mul]
    omega
theorem deeps_le {d : Nat} : ∀ {xs : List Val}, (∀ x ∈ xs, x.deep ≤ d) → Val.deeps xs ≤ d
  | [], _ => Nat.zero_le _
  | x :: r, h => Nat.max_le.mpr ⟨h x List.mem_cons_self, deeps_le fun y hy => h y (List.mem_cons_of_mem _ hy)⟩
theorem okAs_of : ∀ {xs : List Val}, (∀ x ∈ xs, okA x = true) → okAs xs = true
  | [], _ => rfl
  | x :: r, h => Bool.and_eq_true_iff.mpr ⟨h x List.mem_cons_self, okAs_of fun y hy => h y (List.mem_cons_of_mem _ hy)⟩
theorem flats_of : ∀ {xs : List Val}, (∀ x ∈ xs, x.flat = true) → Val.flats xs = true
  | [], _ => rfl
  | x :: r, h => Bool.and_eq_true_iff.mpr ⟨h x List.mem_cons_self, flats_of fun y hy => h y (List.mem_cons_of_mem _ hy)⟩
/-- plain data, of so many signs when shown, so deep -/
structure Gd (c d : Nat) (v : Val) : Prop where
  a : okA v = true
  f : v.flat = true
  l : wt v ≤ c
  d : v.deep ≤ d
theorem Gd.mono {c d c' d' : Nat} {v : Val} (g : Gd c d v) (h : c ≤ c') (k : d ≤ d') : Gd c' d' v := ⟨g.a, g.f, Nat.le_trans g.l h, Nat.le_trans g.d k⟩
theorem gd_tup {c d : Nat} {xs : List Val} (n : Nat) (h : ∀ x ∈ xs, Gd c d x) (l : xs.length ≤ n) : Gd (n * (c + 2) + 3) (d + 1) (.tup xs) := by
  refine ⟨okAs_of fun x hx => (h x hx).a, flats_of fun x hx => (h x hx).f, ?_, Nat.succ_le_succ (deeps_le fun x hx => (h x hx).d)⟩
  have := wts_le (c := c) fun x hx => (h x hx).l
  have := Nat.mul_le_mul_right (c + 2) l
  show wts xs + 3 ≤ _
  omega
theorem gd_list {c d : Nat} {xs : List Val} (n : Nat) (h : ∀ x ∈ xs, Gd c d x) (l : xs.length ≤ n) : Gd (n * (c + 2) + 3) (d + 1) (.list xs) := by
  refine ⟨okAs_of fun x hx => (h x hx).a, flats_of fun x hx => (h x hx).f, ?_, Nat.succ_le_succ (deeps_le fun x hx => (h x hx).d)⟩
  have := wts_le (c := c) fun x hx => (h x hx).l
  have := Nat.mul_le_mul_right (c + 2) l
  show wts xs + 2 ≤ _
  omega
theorem gd_int {i : Int} (h : i.natAbs < 2 ^ 1000) : Gd 1001 0 (.int i) := ⟨decide_eq_true h, rfl, Nat.le_refl _, Nat.le_refl _⟩
theorem gd_bool {b : Bool} : Gd 1001 0 (.bool b) := ⟨rfl, rfl, by show 5 ≤ 1001; decide, Nat.le_refl _⟩
theorem gd_none : Gd 1001 0 .none := ⟨rfl, rfl, by show 5 ≤ 1001; decide, Nat.le_refl _⟩
theorem gd_str {s : T} (h : ascL s = true) : Gd (10 * s.length + 2) 0 (.str s) := ⟨h, rfl, Nat.le_refl _, Nat.le_refl _⟩
theorem big_pow : (1000000000000000000000000000000 : Nat) < 2 ^ 1000 := by decide +kernel
theorem gd_ints {is : List Int} (n : Nat) (h : ∀ x ∈ is, x.natAbs ≤ 1000000000000000000000000000000) (l : is.length ≤ n) : Gd (n * 1003 + 3) 1 (.tup (is.map .int)) := by
  refine gd_tup (c := 1001) (d := 0) n (fun x hx => ?_) (by rw [List.length_map]; exact l)
  obtain ⟨i, hi, rfl⟩ := List.mem_map.mp hx
  exact gd_int (Nat.lt_of_le_of_lt (h i hi) big_pow)
theorem gd_pr {c d c' d' : Nat} {x y : Val} (h : Gd c d x) (k : Gd c' d' y) : Gd (c + c' + 7) (max d d' + 1) (.tup [x, y]) := by
  refine ⟨?_, ?_, ?_, ?_⟩
  · show (okA x && (okA y && true)) = true; rw [h.a, k.a]; rfl
  · show (x.flat && (y.flat && true)) = true; rw [h.f, k.f]; rfl
  · have := h.l
    have := k.l
    show wt x + 2 + (wt y + 2 + 0) + 3 ≤ _
    omega
  · have := h.d
    have := k.d
    show max x.deep (max y.deep 0) + 1 ≤ max d d' + 1
    omega
theorem Gd.repr {c d : Nat} {v : Val} (g : Gd c d v) (h : Heap) (hc : c ≤ SL) (hd : d ≤ 64) : evP .repr [v] h = .ok (.str (reprT v)) h :=
  p_repr h g.a (flat_dat g.f) (Nat.le_trans g.d hd) (Nat.le_trans g.l hc)
end M
namespace M
open PySem
local macro_rules | `(tactic| decreasing_trivial) => `(tactic| try simp only [wp_bind, wp_ok, bind_ok, e_lit, e_var, e_prim, e_and, e_or, e_not, e_ite, e_chain, e_call, e_comp, e_frz, e_meth, es_nil, es_cons, c_nil, c_cons, i_val, i_range, i_enum, i_zip, s_asg, s_par, s_asg2, setsTg, s_aug, s_expr, s_ite, s_wh, s_for, s_ret, s_brk, t_ev, st_nil, st_cons, st_name, st_tup, st_ix,
  List.getElem?_cons_zero, List.getElem?_cons_succ, List.set_cons_zero, List.set_cons_succ, List.map_cons, List.map_nil, List.cons_append, List.nil_append, List.append_nil, List.replicate_succ, List.replicate_zero, selV, Option.map_some,
  p_add_int, p_add_str, p_add_tup, p_add_list, p_sub, p_neg, p_eq_int, p_ne_int, p_eq_str, p_ne_str, p_lt, p_gt, p_le, p_ge, p_isNone, p_isNotNone, p_isTrue, p_isFalse, p_isNotTrue, p_isNotFalse, p_mem_sign, p_notmem_sign, p_ix_str, p_ix_list, p_ix_tup, optV_some, p_sl11, p_sl10, p_sl01, p_sl00, sl_str, sl_list, sl_tup, p_rev_str, p_rev_list, p_rev_tup, p_tup, p_list, p_len_str, p_len_list, p_len_tup, p_min2, p_max2, p_int_bool, p_int_int, p_bool, p_str_str, p_ord, p_listOf_list, p_listOf_tup, p_tupOf_list, p_tupOf_tup, truth_bool, truth_int, truth_str, truth_list, truth_tup, if_tt, if_ff, if_true, if_false, it_list, it_tup, it_str,
  okList_ok, okTup_ok, SL_val, List.length_cons, List.length_nil, Nat.reduceAdd, Nat.reduceLeDiff, Nat.zero_add, killL, List.foldl_cons, List.foldl_nil, setTg])
local macro_rules | `(tactic| get_elem_tactic_trivial) => `(tactic| exact pr_ret rfl)
def B_worths_ahead_1 (i_line_cost : Nat) : List MS := [.expr (.meth .append (.var 3) [(.prim .min1 [(.comp false [5] (.name 5) (.range [(.var 4)]) [] (.prim .add [(.prim .ix [(.var 3), (.var 5)]), (.call i_line_cost [(.var 0), (.var 1), (.var 2), (.var 5), (.var 4)] [] [.inl 0, .inl 1, .inl 2, .inl 3, .inl 4])]))])])]
/-- worths_ahead sums weights frame worths stop start -/
def B_worths_ahead (i_line_cost : Nat) : List MS := [.asg [.name 3] (.prim (.list true) [(.lit (.int 0))]), .for (.name 4) (.range [(.lit (.int 1)), (.prim .len [(.var 0)])]) (B_worths_ahead_1 i_line_cost), .ret (.prim .tupOf [(.var 3)])]
def F_worths_ahead (i_line_cost : Nat) : Fn := ⟨3, 6, false, B_worths_ahead i_line_cost⟩
def B_costs_behind_1 (i_line_cost : Nat) : List MS := [.asg [.name 6] (.comp false [7] (.name 7) (.range [(.prim .add [(.var 5), (.lit (.int 1))]), (.prim .add [(.var 3), (.lit (.int 1))])]) [] (.prim .add [(.call i_line_cost [(.var 0), (.var 1), (.var 2), (.var 5), (.var 7)] [] [.inl 0, .inl 1, .inl 2, .inl 3, .inl 4]), (.prim .dget [(.var 4), (.var 7)])])), .asg [.dk (.var 4) (.var 5)] (.prim .min1 [(.var 6)])]
/-- costs_behind sums weights frame many costs start some stop -/
def B_costs_behind (i_line_cost : Nat) : List MS := [.asg [.name 3] (.prim .sub [(.prim .len [(.var 0)]), (.lit (.int 1))]), .asg [.name 4] (.prim (.dict1 true) [(.var 3), (.lit (.int 0))]), .for (.name 5) (.range [(.prim .sub [(.var 3), (.lit (.int 1))]), (.prim .neg [(.lit (.int 1))]), (.prim .neg [(.lit (.int 1))])]) (B_costs_behind_1 i_line_cost), .ret (.frz (.var 4))]
def F_costs_behind (i_line_cost : Nat) : Fn := ⟨3, 8, false, B_costs_behind i_line_cost⟩
def B_least_2 (i_costs_behind : Nat) (i_line_cost : Nat) (i_sums_of : Nat) (i_worths_ahead : Nat) : List MS := [.aug 11 .add (.lit (.int 1))]
def B_least_1 (i_costs_behind : Nat) (i_line_cost : Nat) (i_sums_of : Nat) (i_worths_ahead : Nat) : List MS := [.asg [.name 11] (.prim .add [(.var 10), (.lit (.int 1))]), .wh (.prim .gt [(.prim .add [(.call i_line_cost [(.var 5), (.var 1), (.var 6), (.var 10), (.var 11)] [] [.inl 0, .inl 1, .inl 2, .inl 3, .inl 4]), (.prim .dget [(.var 7), (.var 11)])]), (.prim .dget [(.var 7), (.var 10)])]) (B_least_2 i_costs_behind i_line_cost i_sums_of i_worths_ahead), .expr (.meth .append (.var 9) [(.prim .sub [(.var 11), (.lit (.int 1))])]), .asg [.name 10] (.var 11)]
/-- least lengths weights first further width sums frame costs many breaks start stop -/
def B_least (i_costs_behind : Nat) (i_line_cost : Nat) (i_sums_of : Nat) (i_worths_ahead : Nat) : List MS := [.par [5, 6] [(.call i_sums_of [(.var 0)] [] [.inl 0]), (.prim .tup [(.var 2), (.var 3), (.var 4)])], .asg [.name 7] (.call i_costs_behind [(.var 5), (.var 1), (.var 6)] [] [.inl 0, .inl 1, .inl 2]), .asg [.name 8] (.prim .len [(.var 0)]), .par [9, 10] [(.prim (.list true) []), (.lit (.int 0))], .wh (.prim .gt [(.call i_line_cost [(.var 5), (.var 1), (.var 6), (.var 10), (.var 8)] [] [.inl 0, .inl 1, .inl 2, .inl 3, .inl 4]), (.prim .dget [(.var 7), (.var 10)])]) (B_least_1 i_costs_behind i_line_cost i_sums_of i_worths_ahead), .ret (.prim .tup [(.prim .tupOf [(.var 9)]), (.call i_worths_ahead [(.var 5), (.var 1), (.var 6)] [] [.inl 0, .inl 1, .inl 2])])]
def F_least (i_costs_behind : Nat) (i_line_cost : Nat) (i_sums_of : Nat) (i_worths_ahead : Nat) : Fn := ⟨5, 12, false, B_least i_costs_behind i_line_cost i_sums_of i_worths_ahead⟩
theorem rangeL_split : ∀ {N : Nat} {lo : Int} {p q : List Val} {x : Val}, p ++ x :: q = rangeL lo N → x = .int (lo + p.length) ∧ p.length < N
  | 0, _, p, q, x, h => by cases p <;> cases h
  | n + 1, lo, [], q, x, h => by
    have h : x :: q = Val.int lo :: rangeL (lo + 1) n := h
    simp only [List.cons.injEq] at h
    exact ⟨by rw [h.1]; simp, by simp⟩
  | n + 1, lo, y :: p, q, x, h => by
    have h : y :: (p ++ x :: q) = Val.int lo :: rangeL (lo + 1) n := h
    simp only [List.cons.injEq] at h
    obtain ⟨h1, h2⟩ := rangeL_split h.2
    refine ⟨?_, by simp only [List.length_cons]; omega⟩
    rw [h1]
    congr 1
    simp only [List.length_cons]
    omega
theorem rangeD_split : ∀ {N : Nat} {lo : Int} {p q : List Val} {x : Val}, p ++ x :: q = rangeD lo N → x = .int (lo - p.length) ∧ p.length < N
  | 0, _, p, q, x, h => by cases p <;> cases h
  | n + 1, lo, [], q, x, h => by
    have h : x :: q = Val.int lo :: rangeD (lo - 1) n := h
    simp only [List.cons.injEq] at h
    exact ⟨by rw [h.1]; simp, by simp⟩
  | n + 1, lo, y :: p, q, x, h => by
    have h : y :: (p ++ x :: q) = Val.int lo :: rangeD (lo - 1) n := h
    simp only [List.cons.injEq] at h
    obtain ⟨h1, h2⟩ := rangeD_split h.2
    refine ⟨?_, by simp only [List.length_cons]; omega⟩
    rw [h1]
    congr 1
    simp only [List.length_cons]
    omega
theorem rangeD_len {lo : Int} : ∀ n : Nat, (rangeD lo n).length = n
  | 0 => rfl
  | n + 1 => congrArg Nat.succ (rangeD_len n)
theorem rangeL0 (n : Nat) : rangeL 0 n = ((List.range n).map fun t : Nat => (t : Int)).map Val.int := by
  have e := rangeL_nat n 0
  have e2 : (fun t : Nat => ((0 + t : Nat) : Int)) = fun t : Nat => (t : Int) := funext fun t => by rw [Nat.zero_add]
  rw [e2] at e
  exact e
theorem p_tupOf_ref {n : Nat} {xs : List Val} {h : Heap} (e : h[n]? = some (.list xs)) (l : xs.length ≤ SL) : evP .tupOf [.ref n] h = .ok (.tup xs) h := by
  have d : dr h (.ref n) = some (.list xs) := by
    show (match h[n]? with
      | some (.list xs) => some (Val.list xs)
      | some (.dict ks vs) => some (.dict ks vs)
      | _ => none) = _
    rw [e]
  have q : seqOf h (.ref n) = some xs := by unfold seqOf; rw [d]
  show seq1 h (.ref n) (fun xs => okTup xs h) = _
  unfold seq1
  rw [q]
  exact okTup_ok _ _ l
/-- a function's values at 0 .. n - 1 -/
def tabI (F : Nat → Int) (n : Nat) : List Int := (List.range n).map F
theorem tabI_len (F : Nat → Int) (n : Nat) : (tabI F n).length = n := by simp [tabI]
theorem tabI_get (F : Nat → Int) {n i : Nat} (h : i < n) : (tabI F n).getD i 0 = F i := by simp [tabI, List.getD, h]
theorem tabI_succ (F : Nat → Int) (n : Nat) : (tabI F (n + 1)).map Val.int = (tabI F n).map Val.int ++ [.int (F n)] := by simp [tabI, List.range_succ]
theorem tabI_last (F : Nat → Int) (n : Nat) : (tabI F (n + 1)).getLast? = some (F n) := by simp [tabI, List.range_succ]
section
variable {G : Tab} {k : Nat}
theorem worths_ahead_ok {i il : Nat} (e : G i = some (F_worths_ahead il)) (el : G il = some F_line_cost) {S W : List Int} {a b w : Int} {F : Nat → Int} {h : Heap} (hS : 2 ≤ S.length) (hS2 : S.length ≤ 1000000) (hW : S.length ≤ W.length + 2) (hF : IsF (lcost S W a b w) (S.length - 1) F) :
    callN G (k + 2) i [.list (S.map .int), .tup (W.map .int), .tup [.int a, .int b, .int w]] h = .ok (.tup ((tabI F S.length).map .int)) h := by
  rw [call_succ e]
  refine run_pure rfl rfl (flat_lt (flats_ints _)) ?_
  show Wp (evB _ (B_worths_ahead il) [some (.list (S.map .int)), some (.tup (W.map .int)), some (.tup [.int a, .int b, .int w]), none, none, none] h) _
  have SLv : SL = 16777216 := rfl
  have RLv : RL = 1000000000 := RL_eq
  refine wp_seq ?_
  decreasing_trivial
  rw [okList_mut _ _ (by show 1 ≤ SL; decide)]
  decreasing_trivial
  refine wp_seq ?_
  decreasing_trivial
  rw [List.length_map, range_two (by omega) (by omega) (by omega) (by omega)]
  have en : (((S.length : Nat) : Int) - 1).toNat = S.length - 1 := by omega
  decreasing_trivial
  rw [en]
  refine for_pre (pre := []) (I := fun pre ls' h' => ∃ x, ls' = [some (.list (S.map .int)), some (.tup (W.map .int)), some (.tup [.int a, .int b, .int w]), some (.ref h.length), x, none] ∧ h' = h ++ [.list ((tabI F (pre.length + 1)).map .int)]) (fun _ _ _ _ => rfl) ⟨none, rfl, by
    show _ = h ++ [Obj.list ((tabI F 1).map .int)]
    have : (tabI F 1).map Val.int = [.int 0] := by simp [tabI, hF.z]
    rw [this]⟩ (fun p x q hf ls' h' ⟨y, e1, e2⟩ => ?_) (fun ls' h' ⟨y, e1, e2⟩ => ?_)
  · subst e1 e2
    obtain ⟨rfl, hl⟩ := rangeL_split hf
    have at0 : (h ++ [Obj.list ((tabI F (p.length + 1)).map .int)] : Heap)[h.length]? = some (.list ((tabI F (p.length + 1)).map .int)) := at_end _ _ _
    decreasing_trivial
    refine wp_one ?_
    decreasing_trivial
    simp only [recv_append at0, if_tt, if_true]
    decreasing_trivial
    rw [range_one (by omega) (by omega)]
    have en : ((1 : Int) + p.length).toNat = p.length + 1 := by omega
    decreasing_trivial
    rw [en, rangeL0]
    refine Wp.of_eq (comp_int_map (fun c => .int (F c.toNat + lcost S W a b w c.toNat (p.length + 1))) fun c hc => ?_) ?_
    · obtain ⟨t, ht, rfl⟩ := List.mem_map.mp hc
      have ht := List.mem_range.mp ht
      decreasing_trivial
      rw [ix_ref at0, atI_getD (n := t) (by omega) (by rw [tabI_len]; omega), tabI_get F (by omega)]
      decreasing_trivial
      rw [line_ok (k := k) el (s := t) (t := p.length + 1) (by omega) (by omega) (by omega) (by omega) (fun z => ⟨by omega, by omega⟩)]
      decreasing_trivial
      rw [Int.toNat_natCast]
    · rw [List.map_map, okList_ok _ _ (by simp; omega)]
      decreasing_trivial
      have e4 : (List.range (p.length + 1)).map ((fun c : Int => Val.int (F c.toNat + lcost S W a b w c.toNat (p.length + 1))) ∘ fun t : Nat => (t : Int)) = ((List.range (p.length + 1)).map fun t => F t + lcost S W a b w t (p.length + 1)).map Val.int := by
        rw [List.map_map]
        refine List.map_congr_left fun t _ => ?_
        simp only [Function.comp, Int.toNat_natCast]
      rw [e4, p_min_eq (b := F (p.length + 1)) (fun x hx => by
        obtain ⟨t, ht, rfl⟩ := List.mem_map.mp hx
        have ht := List.mem_range.mp ht
        exact hF.le t (p.length + 1) ht (by omega)) (by
        obtain ⟨t, t1, t2⟩ := hF.ex (p.length + 1) (by omega) (by omega)
        rw [t2]
        exact List.mem_map.mpr ⟨t, List.mem_range.mpr t1, rfl⟩)]
      decreasing_trivial
      rw [append_ref at0 (by rw [List.length_map, tabI_len]; omega), set_end]
      decreasing_trivial
      exact ⟨_, rfl, by rw [← tabI_succ]; simp⟩
  · subst e1 e2
    rw [List.nil_append, rangeL_len]
    have e5 : S.length - 1 + 1 = S.length := by omega
    rw [e5]
    refine wp_one ?_
    decreasing_trivial
    rw [p_tupOf_ref (at_end _ _ _) (by rw [List.length_map, tabI_len]; omega)]
    decreasing_trivial
    exact ⟨rfl, _, rfl⟩
/-- the numbers from m down -/
def dn (m n : Nat) : List Int := (List.range n).map fun t : Nat => (m : Int) - t
theorem dn_len (m n : Nat) : (dn m n).length = n := by simp [dn]
theorem dn_succ (m n : Nat) : dn m (n + 1) = dn m n ++ [(m : Int) - n] := by simp [dn, List.range_succ]
theorem dn_mem {m n j : Nat} (h1 : j ≤ m) (h2 : m < j + n) : (j : Int) ∈ dn m n := List.mem_map.mpr ⟨m - j, List.mem_range.mpr (by omega), by omega⟩
theorem dn_not {m n : Nat} : ((m : Int) - n) ∉ dn m n := fun h => by
  obtain ⟨t, ht, e⟩ := List.mem_map.mp h
  have := List.mem_range.mp ht
  omega
def fB (B : Nat → Int) (j : Int) : Val := .int (B j.toNat)
theorem look_dn {B : Nat → Int} {m n j : Nat} (h1 : j ≤ m) (h2 : m < j + n) : lookD ((dn m n).map .int) ((dn m n).map (fB B)) (.int j) = some (.int (B j)) := by
  rw [lookD_map (dn_mem h1 h2)]
  show some (Val.int (B (j : Int).toNat)) = _
  rw [Int.toNat_natCast]
theorem flats_fB (B : Nat → Int) (ks : List Int) (n : Nat) : Val.lts n (ks.map (fB B)) = true := by
  induction ks with
  | nil => rfl
  | cons x r ih => show (true && Val.lts n (r.map (fB B))) = true; rw [ih]; rfl
theorem range_nat {s m n : Nat} (hm : m = s + n) (l : m ≤ 1000000) : itRange [.int ((s : Int) + 1), .int ((m : Int) + 1)] = some (((List.range n).map fun t : Nat => ((s + 1 + t : Nat) : Int)).map Val.int) := by
  have key : ∀ i j : Int, i = ((s + 1 : Nat) : Int) → j = i + n → i ≤ 2000000 → j ≤ 2000000 → itRange [.int i, .int j] = some (((List.range n).map fun t : Nat => ((s + 1 + t : Nat) : Int)).map Val.int) := fun i j hi hj h1 h2 => by
    have RLv : RL = 1000000000 := RL_eq
    rw [range_two (by omega) (by omega) (by omega) (by omega)]
    have en : (j - i).toNat = n := by omega
    rw [en, hi, rangeL_nat]
  exact key _ _ (by omega) (by omega) (by omega) (by omega)
theorem costs_behind_ok {i il : Nat} (e : G i = some (F_costs_behind il)) (el : G il = some F_line_cost) {S W : List Int} {a b w : Int} {B : Nat → Int} {h : Heap} (hS : 2 ≤ S.length) (hS2 : S.length ≤ 1000000) (hW : S.length ≤ W.length + 2) (hB : IsB (lcost S W a b w) (S.length - 1) B) :
    callN G (k + 2) i [.list (S.map .int), .tup (W.map .int), .tup [.int a, .int b, .int w]] h = .ok (.dict ((dn (S.length - 1) S.length).map .int) ((dn (S.length - 1) S.length).map (fB B))) h := by
  rw [call_succ e]
  refine run_pure rfl rfl (by
    show (Val.lts h.length ((dn (S.length - 1) S.length).map .int) && Val.lts h.length ((dn (S.length - 1) S.length).map (fB B))) = true
    rw [ints_lt, flats_fB]; rfl) ?_
  show Wp (evB _ (B_costs_behind il) [some (.list (S.map .int)), some (.tup (W.map .int)), some (.tup [.int a, .int b, .int w]), none, none, none, none, none] h) _
  have SLv : SL = 16777216 := rfl
  have RLv : RL = 1000000000 := RL_eq
  obtain ⟨m, hm⟩ : ∃ m, S.length = m + 1 := ⟨S.length - 1, by omega⟩
  rw [hm] at hB ⊢
  have em : m + 1 - 1 = m := by omega
  rw [em] at hB ⊢
  refine wp_seq ?_
  decreasing_trivial
  have e1 : (((S.map Val.int).length : Nat) : Int) - 1 = (m : Int) := by rw [List.length_map]; omega
  simp only [e1]
  refine wp_seq ?_
  decreasing_trivial
  rw [p_dict1m _ _ _ rfl]
  decreasing_trivial
  refine wp_seq ?_
  decreasing_trivial
  rw [range_down (by omega) (by omega) (by omega) (by omega)]
  have en : ((m : Int) - 1 - -1).toNat = m := by omega
  decreasing_trivial
  rw [en]
  refine for_pre (pre := []) (I := fun pre ls' h' => ∃ x y, ls' = [some (.list (S.map .int)), some (.tup (W.map .int)), some (.tup [.int a, .int b, .int w]), some (.int m), some (.ref h.length), x, y, none] ∧ h' = h ++ [.dict ((dn m (pre.length + 1)).map .int) ((dn m (pre.length + 1)).map (fB B))]) (fun _ _ _ _ => rfl) ⟨none, none, rfl, by
    have e2 : dn m 1 = [(m : Int)] := by simp [dn]
    show _ = h ++ [Obj.dict ((dn m 1).map .int) ((dn m 1).map (fB B))]
    rw [e2]
    show _ = h ++ [Obj.dict [.int m] [.int (B (m : Int).toNat)]]
    rw [Int.toNat_natCast, hB.z]⟩ (fun p x q hf ls' h' ⟨y, z, e1, e2⟩ => ?_) (fun ls' h' ⟨y, z, e1, e2⟩ => ?_)
  · subst e1 e2
    obtain ⟨rfl, hl⟩ := rangeD_split hf
    obtain ⟨s, hs⟩ : ∃ s, m = s + (p.length + 1) := ⟨m - (p.length + 1), by omega⟩
    have es : (m : Int) - 1 - p.length = (s : Int) := by omega
    rw [es]
    have at0 : (h ++ [Obj.dict ((dn m (p.length + 1)).map .int) ((dn m (p.length + 1)).map (fB B))] : Heap)[h.length]? = some (.dict ((dn m (p.length + 1)).map .int) ((dn m (p.length + 1)).map (fB B))) := at_end _ _ _
    decreasing_trivial
    have er := range_nat (s := s) (m := m) (n := p.length + 1) (by omega) (by omega)
    refine wp_seq ?_
    rw [s_asg, comp_at (range2_at (i := (s : Int) + 1) (j := (m : Int) + 1) (by decreasing_trivial) (by decreasing_trivial) er)]
    decreasing_trivial
    refine Wp.of_eq (comp_int_map (fun c => .int (lcost S W a b w s c.toNat + B c.toNat)) fun c hc => ?_) ?_
    · obtain ⟨t, ht, rfl⟩ := List.mem_map.mp hc
      have ht := List.mem_range.mp ht
      decreasing_trivial
      rw [line_ok (k := k) el (s := s) (t := s + 1 + t) rfl rfl (by omega) (by omega) (fun z => ⟨by omega, by omega⟩)]
      decreasing_trivial
      rw [p_dget_ref at0 rfl (look_dn (by omega) (by omega))]
      decreasing_trivial
      rw [Int.toNat_natCast]
    · rw [List.map_map, okList_ok _ _ (by simp; omega)]
      decreasing_trivial
      have e4 : (List.range (p.length + 1)).map ((fun c : Int => Val.int (lcost S W a b w s c.toNat + B c.toNat)) ∘ fun t : Nat => ((s + 1 + t : Nat) : Int)) = ((List.range (p.length + 1)).map fun t => lcost S W a b w s (s + 1 + t) + B (s + 1 + t)).map Val.int := by
        rw [List.map_map]
        refine List.map_congr_left fun t _ => ?_
        simp only [Function.comp, Int.toNat_natCast]
      rw [e4]
      refine wp_one (Wp.of_eq (s_dput (v := .int (B s)) (q := .int s) ?_ rfl rfl at0 rfl (by rw [List.length_map, dn_len]; omega)) ?_)
      · decreasing_trivial
        exact p_min_eq (b := B s) (fun x hx => by
          obtain ⟨t, ht, rfl⟩ := List.mem_map.mp hx
          have ht := List.mem_range.mp ht
          exact hB.le s (s + 1 + t) (by omega) (by omega)) (by
          obtain ⟨t, t1, t2, t3⟩ := hB.ex s (by omega)
          refine List.mem_map.mpr ⟨t - (s + 1), List.mem_range.mpr (by omega), ?_⟩
          have e5 : s + 1 + (t - (s + 1)) = t := by omega
          simp only [e5]
          exact t3.symm)
      rw [set_end]
      refine ⟨_, _, rfl, ?_⟩
      have e6 : (s : Int) = (m : Int) - ((p.length + 1 : Nat) : Int) := by omega
      have e7 : Val.int (B s) = fB B ((m : Int) - ((p.length + 1 : Nat) : Int)) := by
        show _ = Val.int (B ((m : Int) - ((p.length + 1 : Nat) : Int)).toNat)
        have : ((m : Int) - ((p.length + 1 : Nat) : Int)).toNat = s := by omega
        rw [this]
      rw [e7, e6]
      obtain ⟨q1, q2⟩ := put_new (f := fB B) (dn_not (m := m) (n := p.length + 1))
      rw [q1, q2, ← dn_succ]
      simp
  · subst e1 e2
    rw [List.nil_append, rangeD_len]
    refine wp_one ?_
    decreasing_trivial
    rw [frz_dict (at_end _ _ _)]
    decreasing_trivial
    exact ⟨rfl, [.dead], by rw [set_end]⟩
/-- breaks from stops -/
def brk (l : List Nat) : List Int := l.map fun t : Nat => (t : Int) - 1
theorem brk_snoc (l : List Nat) (t : Nat) : (brk (l ++ [t])).map Val.int = (brk l).map Val.int ++ [.int ((t : Int) - 1)] := by simp [brk]
theorem brk_len (l : List Nat) : (brk l).length = l.length := by simp [brk]
theorem least_ok {i ib il is iw : Nat} (e : G i = some (F_least ib il is iw)) (eb : G ib = some (F_costs_behind il)) (el : G il = some F_line_cost) (es : G is = some F_sums_of) (ew : G iw = some (F_worths_ahead il)) {ls W : List Int} {a b w : Int} {B F : Nat → Int} {l : List Nat} {h : Heap}
    (h1 : 1 ≤ ls.length) (h2 : ls.length ≤ 100000) (hW : ls.length ≤ W.length + 1) (hB : IsB (lcost (scanI 0 ls) W a b w) ls.length B) (hF : IsF (lcost (scanI 0 ls) W a b w) ls.length F) (hl : Br (lcost (scanI 0 ls) W a b w) ls.length B 0 l) :
    callN G (k + 3) i [.tup (ls.map .int), .tup (W.map .int), .int a, .int b, .int w] h = .ok (.tup [.tup ((brk l).map .int), .tup ((tabI F (ls.length + 1)).map .int)]) h := by
  rw [call_succ e]
  refine run_pure rfl rfl (flat_lt (by show (Val.flats _ && (Val.flats _ && true)) = true; rw [flats_ints, flats_ints]; rfl)) ?_
  show Wp (evB _ (B_least ib il is iw) [some (.tup (ls.map .int)), some (.tup (W.map .int)), some (.int a), some (.int b), some (.int w), none, none, none, none, none, none, none] h) _
  have SLv : SL = 16777216 := rfl
  have sl : (scanI 0 ls).length = ls.length + 1 := scanI_len _ _
  obtain ⟨S, hS⟩ : ∃ S, S = scanI 0 ls := ⟨_, rfl⟩
  rw [← hS] at sl hB hF hl
  have eS : S.length - 1 = ls.length := by omega
  have hl0 := hl.len
  refine wp_seq ?_
  decreasing_trivial
  rw [sums_ok (k := k + 1) es (by omega), ← hS]
  decreasing_trivial
  refine wp_seq ?_
  decreasing_trivial
  rw [costs_behind_ok (k := k) eb el (B := B) (by omega) (by omega) (by omega) (by rw [eS]; exact hB), eS, sl]
  decreasing_trivial
  refine wp_seq ?_
  decreasing_trivial
  rw [List.length_map]
  refine wp_seq ?_
  decreasing_trivial
  rw [okList_mut _ _ (by show 0 ≤ SL; decide)]
  decreasing_trivial
  have dg : ∀ (j : Nat) (h' : Heap), j ≤ ls.length → evP .dget [.dict ((dn ls.length (ls.length + 1)).map .int) ((dn ls.length (ls.length + 1)).map (fB B)), .int j] h' = .ok (.int (B j)) h' := fun j h' hj => p_dget_val rfl (look_dn hj (by omega))
  refine wp_seq ?_
  rw [s_wh]
  refine wh_ok (n := l.length) (I := fun n ls' h' => ∃ (pre r : List Nat) (s : Nat) (x : Option Val), l = pre ++ r ∧ n = r.length ∧ Br (lcost S W a b w) ls.length B s r ∧ s < ls.length ∧ h' = h ++ [.list ((brk pre).map .int)] ∧
    ls' = [some (.tup (ls.map .int)), some (.tup (W.map .int)), some (.int a), some (.int b), some (.int w), some (.list (S.map .int)), some (.tup [.int a, .int b, .int w]), some (.dict ((dn ls.length (ls.length + 1)).map .int) ((dn ls.length (ls.length + 1)).map (fB B))), some (.int ls.length), some (.ref h.length), some (.int s), x])
    (fun n ls' h' ⟨pre, r, s, x, e1, e2, e3, e4, e5, e6⟩ => ?_) (by show l.length < 1000000000000; omega) ⟨[], l, 0, none, rfl, rfl, hl, by omega, rfl, rfl⟩
  subst e5 e6
  decreasing_trivial
  rw [line_ok (k := k + 1) el (s := s) (t := ls.length) rfl rfl (by omega) (by omega) (fun z => ⟨by omega, by omega⟩)]
  decreasing_trivial
  rw [dg s _ (by omega)]
  decreasing_trivial
  cases e3 with
  | nil q1 q2 =>
    rw [decide_eq_false (by omega), if_neg (by decide)]
    rw [List.append_nil] at e1
    subst e1
    refine wp_one ?_
    decreasing_trivial
    rw [p_tupOf_ref (at_end _ _ _) (by rw [List.length_map, brk_len]; omega)]
    decreasing_trivial
    rw [worths_ahead_ok (k := k) ew el (F := F) (by omega) (by omega) (by omega) (by rw [eS]; exact hF), sl]
    decreasing_trivial
    exact ⟨rfl, _, rfl⟩
  | cons q1 q2 q3 q4 q5 q6 =>
    rename_i t r
    have lp : pre.length < 200000 := by
      have := congrArg List.length e1
      simp at this
      omega
    have at0 : (h ++ [Obj.list ((brk pre).map .int)] : Heap)[h.length]? = some (.list ((brk pre).map .int)) := at_end _ _ _
    rw [decide_eq_true q3, if_pos rfl]
    refine wp_seq ?_
    decreasing_trivial
    refine wp_seq ?_
    rw [s_wh]
    refine wh_ok (n := t - (s + 1)) (I := fun n ls' h' => ∃ u, n = t - u ∧ s < u ∧ u ≤ t ∧ h' = h ++ [.list ((brk pre).map .int)] ∧
      ls' = [some (.tup (ls.map .int)), some (.tup (W.map .int)), some (.int a), some (.int b), some (.int w), some (.list (S.map .int)), some (.tup [.int a, .int b, .int w]), some (.dict ((dn ls.length (ls.length + 1)).map .int) ((dn ls.length (ls.length + 1)).map (fB B))), some (.int ls.length), some (.ref h.length), some (.int s), some (.int (u : Nat))])
      (fun n ls' h' ⟨u, f1, f2, f3, f4, f5⟩ => ?_) (by show t - (s + 1) < 1000000000000; omega) ⟨s + 1, rfl, by omega, by omega, rfl, rfl⟩
    subst f4 f5
    decreasing_trivial
    rw [line_ok (k := k + 1) el (s := s) (t := u) rfl rfl (by omega) (by omega) (fun z => ⟨by omega, by omega⟩)]
    decreasing_trivial
    rw [dg u _ (by omega)]
    decreasing_trivial
    rw [dg s _ (by omega)]
    decreasing_trivial
    by_cases hu : u < t
    · rw [decide_eq_true (q4 u f2 hu), if_pos rfl]
      refine wp_one ?_
      decreasing_trivial
      simp only [augV, bind_ok, wp_ok, List.set_cons_succ, List.set_cons_zero]
      exact ⟨t - (u + 1), by omega, u + 1, rfl, by omega, by omega, trivial, rfl⟩
    · have eu : u = t := by omega
      subst eu
      rw [decide_eq_false (by omega), if_neg (by decide)]
      refine wp_seq ?_
      decreasing_trivial
      simp only [recv_append at0, if_tt, if_true]
      decreasing_trivial
      rw [append_ref at0 (by rw [List.length_map, brk_len]; omega), set_end]
      decreasing_trivial
      refine wp_one ?_
      decreasing_trivial
      exact ⟨r.length, by rw [e2]; simp, pre ++ [u], r, u, _, by rw [e1]; simp, rfl, q6, q2, by rw [brk_snoc], rfl⟩
end
end M
namespace M
/-! ### words of one length -/
theorem scan_rep (L : Int) : ∀ (n j : Nat) (a : Int), j ≤ n → (scanI a (List.replicate n L)).getD j 0 = a + j * L
  | n, 0, a, _ => by cases n <;> simp [List.replicate, scanI]
  | 0, j + 1, a, h => by omega
  | n + 1, j + 1, a, h => by
    show (a :: scanI (a + L) (List.replicate n L)).getD (j + 1) 0 = _
    rw [List.getD_cons_succ, scan_rep L n j (a + L) (by omega)]
    have : ((j + 1 : Nat) : Int) * L = j * L + L := by rw [Int.natCast_add, Int.add_mul]; simp
    rw [this]; omega
theorem rep_getD (W : Int) (n j : Nat) (h : j < n) : (List.replicate n W).getD j 0 = W := by
  simp [List.getD, h]
/-- a line of words of one length, where the width holds H of them, less e -/
theorem lc_rep {L W C H e : Int} {n i j : Nat} (hij : i < j) (hj : j ≤ n) : lcost (scanI 0 (List.replicate n L)) (List.replicate (n - 1) W) C C (C + H * (L + 1) - 1 - e) i j = 1000 * max 0 (((j : Int) - i - H) * (L + 1) + e) + (if j < n then W else 0) := by
  unfold lcost
  rw [scan_rep L n j 0 hj, scan_rep L n i 0 (by omega), scanI_len, List.length_replicate]
  have e1 : (if i = 0 then C else C) = C := by split <;> rfl
  rw [e1]
  have e2 : C + (0 + (j : Int) * L) - (0 + (i : Int) * L) + j - i - 1 - (C + H * (L + 1) - 1 - e) = ((j : Int) - i - H) * (L + 1) + e := by
    rw [Int.sub_mul, Int.sub_mul, Int.mul_add, Int.mul_add, Int.mul_add]
    omega
  rw [e2]
  by_cases z : j < n
  · rw [if_pos (by omega), if_pos z, rep_getD W _ _ (by omega)]
  · rw [if_neg (by omega), if_neg z]
theorem lc0 {L W C H : Int} {n i j : Nat} (hij : i < j) (hj : j ≤ n) : lcost (scanI 0 (List.replicate n L)) (List.replicate (n - 1) W) C C (C + H * (L + 1) - 1) i j = 1000 * max 0 (((j : Int) - i - H) * (L + 1)) + (if j < n then W else 0) := by
  have := lc_rep (L := L) (W := W) (C := C) (H := H) (e := 0) hij hj
  rw [Int.sub_zero, Int.add_zero] at this
  exact this
theorem lc1 {L W C H : Int} {n i j : Nat} (hij : i < j) (hj : j ≤ n) : lcost (scanI 0 (List.replicate n L)) (List.replicate (n - 1) W) C C (C + H * (L + 1) - 1 - 1) i j = 1000 * max 0 (((j : Int) - i - H) * (L + 1) + 1) + (if j < n then W else 0) := lc_rep hij hj
section
variable {ls Wt : List Int} {a b w : Int} {x y : Val}
theorem hb_false (h : breaksB ls.length x = false) : holdsB ls Wt a b w (.tup [x, y]) = false := by rw [holdsB_pair, h]; rfl
theorem hw_false (h : worthsB (scanI 0 ls) Wt a b w y = false) : holdsB ls Wt a b w (.tup [x, y]) = false := by rw [holdsB_pair, h, Bool.and_false]; rfl
theorem hc_false (h : bco (scanI 0 ls) Wt a b w 0 (stopsOf (scanI 0 ls) ((items x).map getI)) ≠ ((items y).map getI).getLast?.getD 0) : holdsB ls Wt a b w (.tup [x, y]) = false := by
  rw [holdsB_pair, beq_false_of_ne h, Bool.and_false]
theorem h_true (h1 : breaksB ls.length x = true) (h2 : worthsB (scanI 0 ls) Wt a b w y = true) (h3 : bco (scanI 0 ls) Wt a b w 0 (stopsOf (scanI 0 ls) ((items x).map getI)) = ((items y).map getI).getLast?.getD 0) : holdsB ls Wt a b w (.tup [x, y]) = true := by
  rw [holdsB_pair, h1, h2, h3, beq_self_eq_true]; rfl
theorem rangeL_has {lo : Int} : ∀ {n : Nat} {i : Int}, lo ≤ i → i < lo + n → Val.int i ∈ rangeL lo n
  | 0, i, h, h' => by omega
  | n + 1, i, h, h' => by
    show Val.int i ∈ Val.int lo :: rangeL (lo + 1) n
    by_cases e : i = lo
    · rw [e]; exact List.mem_cons_self
    · exact List.mem_cons_of_mem _ (rangeL_has (by omega) (by omega))
theorem hw_any {S : List Int} {v : Val} (j i : Nat) (hj : 1 ≤ j) (hj2 : j < S.length) (hi : i < j) (h : ((items v).map getI).getD j 0 > ((items v).map getI).getD i 0 + lcost S Wt a b w i j) : worthsB S Wt a b w v = false := by
  have : (rangeL 1 (S.length - 1)).any (tooV S Wt a b w ((items v).map getI)) = true := by
    refine List.any_eq_true.mpr ⟨.int j, rangeL_has (by omega) (by omega), ?_⟩
    refine List.any_eq_true.mpr ⟨.int i, rangeL_has (by omega) (by show (i : Int) < 0 + ((getI (.int j)).toNat : Nat); simp [getI]; omega), ?_⟩
    show tooB S Wt a b w _ (j : Int).toNat (i : Int).toNat = true
    rw [Int.toNat_natCast, Int.toNat_natCast]
    exact decide_eq_true h
  unfold worthsB
  rw [this, Bool.not_true, Bool.and_false]
theorem hw_true {S : List Int} {v : Val} (h1 : numsB v = true) (h2 : (items v).length = S.length) (h3 : ((items v).map getI).getD 0 0 = 0) (h : ∀ j i : Nat, 1 ≤ j → j < S.length → i < j → ((items v).map getI).getD j 0 ≤ ((items v).map getI).getD i 0 + lcost S Wt a b w i j) : worthsB S Wt a b w v = true := by
  have : (rangeL 1 (S.length - 1)).any (tooV S Wt a b w ((items v).map getI)) = false := by
    rw [List.any_eq_false]
    intro u hu
    obtain ⟨j, rfl, j1, j2⟩ := rangeL_mem hu
    rw [Bool.not_eq_true]
    refine List.any_eq_false.mpr fun u hu => ?_
    obtain ⟨i, rfl, i1, i2⟩ := rangeL_mem hu
    have i2 : i < 0 + (j.toNat : Int) := i2
    rw [Bool.not_eq_true]
    refine decide_eq_false ?_
    have := h j.toNat i.toNat (by omega) (by omega) (by omega)
    show ¬ (_ > _)
    exact Int.not_lt.mpr this
  unfold worthsB
  rw [h1, h2, h3, this, beq_self_eq_true]
  rfl
end
end M
namespace M
open PySem
/-! ### what least tells holds -/
def leastV (l : List Nat) (F : Nat → Int) (m : Nat) : Val := .tup [.tup ((brk l).map .int), .tup ((tabI F (m + 1)).map .int)]
theorem nums_ints (is : List Int) : numsB (.tup (is.map .int)) = true := ints_all is
theorem brk_rising : ∀ {l : List Nat}, risingN l → rising (brk l) = true
  | [], _ => rfl
  | [_], _ => rfl
  | a :: b :: r, h => by
    show (decide ((a : Int) - 1 < (b : Int) - 1) && rising (brk (b :: r))) = true
    rw [brk_rising h.2, decide_eq_true (by have := h.1; omega)]
    rfl
theorem brk_stops {S : List Int} {l : List Nat} {m : Nat} (hS : S.length = m + 1) : stopsOf S (brk l) = l ++ [m] := by
  unfold stopsOf brk
  rw [List.map_map, hS]
  have e : ∀ l : List Nat, l.map ((fun x : Int => (x + 1).toNat) ∘ fun t : Nat => (t : Int) - 1) = l := fun l => by
    induction l with
    | nil => rfl
    | cons t r ih => rw [List.map_cons, ih]; congr 1; show ((t : Int) - 1 + 1).toNat = t; omega
  rw [e]
  rfl
theorem holds_least {ls W : List Int} {a b w : Int} {B F : Nat → Int} {l : List Nat} (hB : IsB (lcost (scanI 0 ls) W a b w) ls.length B) (hF : IsF (lcost (scanI 0 ls) W a b w) ls.length F) (hl : Br (lcost (scanI 0 ls) W a b w) ls.length B 0 l) :
    holdsB ls W a b w (leastV l F ls.length) = true := by
  have sl : (scanI 0 ls).length = ls.length + 1 := scanI_len _ _
  refine h_true ?_ ?_ ?_
  · unfold breaksB
    rw [nums_ints]
    simp only [items, Bool.true_and, Bool.and_eq_true]
    refine ⟨List.all_eq_true.mpr fun x hx => ?_, by rw [getI_map]; exact brk_rising hl.rising⟩
    obtain ⟨i, hi, rfl⟩ := List.mem_map.mp hx
    obtain ⟨t, ht, rfl⟩ := List.mem_map.mp hi
    have := hl.mem t ht
    simp only [getI, Bool.and_eq_true, decide_eq_true_eq]
    exact ⟨decide_eq_true (by omega), decide_eq_true (by omega)⟩
  · refine hw_true (nums_ints _) ?_ ?_ fun j i h1 h2 h3 => ?_
    · simp only [items, List.length_map, tabI_len, sl]
    · simp only [items, getI_map]
      rw [tabI_get F (by omega), hF.z]
    · simp only [items, getI_map]
      rw [tabI_get F (by omega), tabI_get F (by omega)]
      exact hF.le i j h3 (by omega)
  · simp only [items, getI_map]
    rw [brk_stops sl, hl.cost hB, tabI_last, Option.getD_some, fb_eq hB hF]
/-! ### no number is too great -/
theorem sum_take {ls : List Int} {c : Int} (h : ∀ x ∈ ls, 0 ≤ x ∧ x ≤ c) : ∀ i : Nat, 0 ≤ (ls.take i).sum ∧ (ls.take i).sum ≤ c * ls.length := by
  induction ls with
  | nil => intro i; simp
  | cons x r ih =>
    intro i
    have hx := h x List.mem_cons_self
    have ih := ih fun y hy => h y (List.mem_cons_of_mem _ hy)
    have e : c * ((x :: r).length : Int) = c * r.length + c := by rw [List.length_cons]; push_cast; rw [Int.mul_add, Int.mul_one]
    rw [e]
    cases i with
    | zero =>
      have := ih r.length
      simp only [List.take_zero, List.sum_nil]
      omega
    | succ i =>
      rw [List.take_succ_cons, List.sum_cons]
      have := ih i
      omega
theorem scan_get : ∀ (ls : List Int) (a : Int) (i : Nat), i ≤ ls.length → (scanI a ls).getD i 0 = a + (ls.take i).sum
  | [], a, i, h => by
    have e : i = 0 := by simpa using h
    subst e
    simp [scanI]
  | x :: r, a, 0, h => by simp [scanI]
  | x :: r, a, i + 1, h => by
    have ih := scan_get r (a + x) i (by simpa using h)
    show (scanI (a + x) r).getD i 0 = _
    rw [ih]
    simp [List.take_succ_cons]
    omega
/-- lengths, weights, columns of no great size -/
structure Sml (ls W : List Int) (a b w : Int) : Prop where
  h1 : 1 ≤ ls.length
  h2 : ls.length ≤ 1000
  hW : ls.length ≤ W.length + 1
  bl : ∀ x ∈ ls, 0 ≤ x ∧ x ≤ 1000000
  bw : ∀ x ∈ W, 0 ≤ x ∧ x ≤ 1000000
  ba : 0 ≤ a ∧ a ≤ 1000000
  bb : 0 ≤ b ∧ b ≤ 1000000
  bW : 0 ≤ w ∧ w ≤ 1000000
theorem lcost_bd {ls W : List Int} {a b w : Int} (s : Sml ls W a b w) {i j : Nat} (hij : i < j) (hj : j ≤ ls.length) : 0 ≤ lcost (scanI 0 ls) W a b w i j ∧ lcost (scanI 0 ls) W a b w i j ≤ 2000000000000 := by
  have h2 := s.h2
  have e1 := scan_get ls 0 i (by omega)
  have e2 := scan_get ls 0 j hj
  have b1 := sum_take s.bl i
  have b2 := sum_take s.bl j
  have ba := s.ba
  have bb := s.bb
  have bW := s.bW
  have m : (1000000 : Int) * (ls.length : Int) ≤ 1000000000 := by omega
  have w1 : ∀ k : Nat, 0 ≤ W.getD k 0 ∧ W.getD k 0 ≤ 1000000 := fun k => by
    rw [List.getD_eq_getElem?_getD]
    cases e : W[k]? with
    | none => simp
    | some x => exact s.bw x (List.mem_of_getElem? e)
  have w2 := w1 (j - 1)
  unfold lcost
  rw [e1, e2]
  split <;> split <;> omega
theorem fb_bd {ls W : List Int} {a b w : Int} (s : Sml ls W a b w) {F : Nat → Int} (hF : IsF (lcost (scanI 0 ls) W a b w) ls.length F) {j : Nat} (hj : j ≤ ls.length) : 0 ≤ F j ∧ F j ≤ 2000000000000 := by
  have ge : ∀ r j, j ≤ r → j ≤ ls.length → 0 ≤ F j := by
    intro r
    induction r with
    | zero => intro j h1 h2; have e : j = 0 := by omega
              rw [e, hF.z]; omega
    | succ r ih =>
      intro j h1 h2
      by_cases q : j = 0
      · rw [q, hF.z]; omega
      · obtain ⟨i, i1, i2⟩ := hF.ex j (by omega) h2
        have := ih i (by omega) (by omega)
        have := (lcost_bd s i1 h2).1
        omega
  refine ⟨ge j j (Nat.le_refl _) hj, ?_⟩
  by_cases q : j = 0
  · rw [q, hF.z]; omega
  · have h1 := hF.le 0 j (by omega) hj
    have h2 := (lcost_bd s (show 0 < j by omega) hj).2
    rw [hF.z] at h1
    omega
theorem gd_brk {l : List Nat} {m n : Nat} (h : ∀ t ∈ l, t < m) (hm : m ≤ 1000) (hl : l.length ≤ n) : Gd (n * 1003 + 3) 1 (.tup ((brk l).map .int)) := by
  refine gd_ints n (fun x hx => ?_) (by rw [brk_len]; exact hl)
  obtain ⟨t, ht, rfl⟩ := List.mem_map.mp hx
  have := h t ht
  omega
theorem gd_least {ls W : List Int} {a b w : Int} (s : Sml ls W a b w) {B F : Nat → Int} (hF : IsF (lcost (scanI 0 ls) W a b w) ls.length F) {l : List Nat} (hl : Br (lcost (scanI 0 ls) W a b w) ls.length B 0 l) {n : Nat} (hn : ls.length ≤ n) (hn2 : n ≤ 1000) :
    Gd (n * 1003 + 3 + ((n + 1) * 1003 + 3) + 7) 2 (leastV l F ls.length) := by
  have hl2 := hl.len
  refine gd_pr (d := 1) (d' := 1) (gd_brk (m := ls.length) (fun t ht => (hl.mem t ht).2) s.h2 (by omega)) (gd_ints (n + 1) (fun x hx => ?_) (by rw [tabI_len]; omega))
  obtain ⟨t, ht, rfl⟩ := List.mem_map.mp hx
  have ht := List.mem_range.mp ht
  have := fb_bd s hF (j := t) (by omega)
  omega
end M
namespace M
open PySem
local macro_rules | `(tactic| decreasing_trivial) => `(tactic| try simp only [wp_bind, wp_ok, bind_ok, e_lit, e_var, e_prim, e_and, e_or, e_not, e_ite, e_chain, e_call, e_comp, e_frz, e_meth, es_nil, es_cons, c_nil, c_cons, i_val, i_range, i_enum, i_zip, s_asg, s_par, s_asg2, setsTg, s_aug, s_expr, s_ite, s_wh, s_for, s_ret, s_brk, t_ev, st_nil, st_cons, st_name, st_tup, st_ix,
  List.getElem?_cons_zero, List.getElem?_cons_succ, List.set_cons_zero, List.set_cons_succ, List.map_cons, List.map_nil, List.cons_append, List.nil_append, List.append_nil, List.replicate_succ, List.replicate_zero, selV, Option.map_some,
  p_add_int, p_add_str, p_add_tup, p_add_list, p_sub, p_neg, p_eq_int, p_ne_int, p_eq_str, p_ne_str, p_lt, p_gt, p_le, p_ge, p_isNone, p_isNotNone, p_isTrue, p_isFalse, p_isNotTrue, p_isNotFalse, p_mem_sign, p_notmem_sign, p_ix_str, p_ix_list, p_ix_tup, optV_some, p_sl11, p_sl10, p_sl01, p_sl00, sl_str, sl_list, sl_tup, p_rev_str, p_rev_list, p_rev_tup, p_tup, p_list, p_len_str, p_len_list, p_len_tup, p_min2, p_max2, p_int_bool, p_int_int, p_bool, p_str_str, p_ord, p_listOf_list, p_listOf_tup, p_tupOf_list, p_tupOf_tup, truth_bool, truth_int, truth_str, truth_list, truth_tup, if_tt, if_ff, if_true, if_false, it_list, it_tup, it_str,
  okList_ok, okTup_ok, SL_val, List.length_cons, List.length_nil, Nat.reduceAdd, Nat.reduceLeDiff, Nat.zero_add, killL, List.foldl_cons, List.foldl_nil, setTg])
local macro_rules | `(tactic| get_elem_tactic_trivial) => `(tactic| exact pr_ret rfl)
section
variable {G : Tab} {k : Nat}
/-- _law_line _law_lengths _law_weights _law_frame_here _law_start _law_stop _law_signs _law_cost_here -/
def B_law_line : List MS := [.asg [.name 5] (.prim .sub [(.prim .sub [(.prim .add [(.prim .sum [(.prim (.sl true true) [(.var 0), (.var 3), (.var 4)])]), (.var 4)]), (.var 3)]), (.lit (.int 1))]), .asg [.name 5] (.prim .add [(.var 5), (.prim .ix [(.var 2), (.prim .int [(.prim .gt [(.var 3), (.lit (.int 0))])])])]), .asg [.name 6] (.prim .mul [(.lit (.int 1000)), (.prim .max2 [(.lit (.int 0)), (.prim .sub [(.var 5), (.prim .ix [(.var 2), (.lit (.int 2))])])])]), .ret (.ite (.prim .lt [(.var 4), (.prim .len [(.var 0)])]) (.prim .add [(.var 6), (.prim .ix [(.var 1), (.prim .sub [(.var 4), (.lit (.int 1))])])]) (.var 6))]
def F_law_line : Fn := ⟨5, 7, false, B_law_line⟩
/-- _law_cost _law_lengths _law_weights _law_frame_here _law_breaks _law_stops _law_starts _law_number _law_start _law_stop -/
def B_law_cost (i_law_line : Nat) : List MS := [.asg [.name 4] (.prim .add [(.comp false [6] (.name 6) (.val (.var 3)) [] (.prim .add [(.var 6), (.lit (.int 1))])), (.prim (.list false) [(.prim .len [(.var 0)])])]), .asg [.name 5] (.prim .add [(.prim (.list false) [(.lit (.int 0))]), (.prim (.sl false true) [(.var 4), (.prim .neg [(.lit (.int 1))])])]), .ret (.prim .sum [(.comp false [7, 8] (.tup [7, 8]) (.zip (.var 5) (.var 4)) [] (.call i_law_line [(.var 0), (.var 1), (.var 2), (.var 7), (.var 8)] [] [.inl 0, .inl 1, .inl 2, .inl 3, .inl 4]))])]
def F_law_cost (i_law_line : Nat) : Fn := ⟨4, 9, false, B_law_cost i_law_line⟩
def B_law_all_breaks_1 : List MS := [.asg [.name 1] (.prim .add [(.var 1), (.comp false [3] (.name 3) (.val (.var 1)) [] (.prim .add [(.var 3), (.prim .tup [(.var 2)])]))])]
/-- _law_all_breaks _law_many _law_found _law_number _law_breaks -/
def B_law_all_breaks : List MS := [.asg [.name 1] (.prim (.list false) [(.prim .tup [])]), .for (.name 2) (.range [(.prim .sub [(.var 0), (.lit (.int 1))])]) B_law_all_breaks_1, .ret (.var 1)]
def F_law_all_breaks : Fn := ⟨1, 4, false, B_law_all_breaks⟩
/-- _law_best _law_lengths _law_weights _law_frame_here _law_costs _law_breaks -/
def B_law_best (i_law_all_breaks : Nat) (i_law_cost : Nat) : List MS := [.asg [.name 3] (.comp false [4] (.name 4) (.val (.call i_law_all_breaks [(.prim .len [(.var 0)])] [] [.inl 0])) [] (.prim .tup [(.call i_law_cost [(.var 0), (.var 1), (.var 2), (.var 4)] [] [.inl 0, .inl 1, .inl 2, .inl 3]), (.var 4)])), .ret (.prim .minD [(.var 3)])]
def F_law_best (i_law_all_breaks : Nat) (i_law_cost : Nat) : Fn := ⟨3, 5, false, B_law_best i_law_all_breaks i_law_cost⟩
def B_law_are_worths_2 (i_law_line : Nat) : List MS := [.ite (.prim .gt [(.prim .ix [(.var 3), (.var 4)]), (.prim .add [(.prim .ix [(.var 3), (.var 5)]), (.call i_law_line [(.var 0), (.var 1), (.var 2), (.var 5), (.var 4)] [] [.inl 0, .inl 1, .inl 2, .inl 3, .inl 4])])]) [.ret (.lit (.bool false))] []]
def B_law_are_worths_1 (i_law_line : Nat) : List MS := [.for (.name 5) (.range [(.var 4)]) (B_law_are_worths_2 i_law_line)]
/-- _law_are_worths _law_lengths _law_weights _law_frame_here _law_thing _law_stop _law_start _law_one -/
def B_law_are_worths (i_law_line : Nat) : List MS := [.ite (.or (.not (.prim (.isi [3]) [(.var 3)])) (.prim .ne [(.prim .len [(.var 3)]), (.prim .add [(.prim .len [(.var 0)]), (.lit (.int 1))])])) [.ret (.lit (.bool false))] [], .ite (.or (.prim .ne [(.comp false [6] (.name 6) (.val (.var 3)) [(.or (.prim (.isi [2]) [(.var 6)]) (.not (.prim (.isi [1]) [(.var 6)])))] (.lit (.int 1))), (.prim (.list false) [])]) (.prim .ne [(.prim .ix [(.var 3), (.lit (.int 0))]), (.lit (.int 0))])) [.ret (.lit (.bool false))] [], .for (.name 4) (.range [(.lit (.int 1)), (.prim .len [(.var 3)])]) (B_law_are_worths_1 i_law_line), .ret (.lit (.bool true))]
def F_law_are_worths (i_law_line : Nat) : Fn := ⟨4, 7, false, B_law_are_worths i_law_line⟩
def B_law_is_least_1 (i_law_are_worths : Nat) (i_law_cost : Nat) : List MS := [.ite (.or (.prim (.isi [2]) [(.var 4)]) (.or (.not (.prim (.isi [1]) [(.var 4)])) (.not (.chain .le .lt (.lit (.int 0)) (.var 4) (.prim .sub [(.prim .len [(.var 0)]), (.lit (.int 1))]))))) [.ret (.lit (.bool false))] []]
/-- _law_is_least _law_lengths _law_weights _law_frame_here _law_thing _law_one -/
def B_law_is_least (i_law_are_worths : Nat) (i_law_cost : Nat) : List MS := [.ite (.or (.not (.prim (.isi [3]) [(.var 3)])) (.or (.prim .ne [(.prim .len [(.var 3)]), (.lit (.int 2))]) (.not (.prim (.isi [3]) [(.prim .ix [(.var 3), (.lit (.int 0))])])))) [.ret (.lit (.bool false))] [], .for (.name 4) (.val (.prim .ix [(.var 3), (.lit (.int 0))])) (B_law_is_least_1 i_law_are_worths i_law_cost), .ite (.or (.prim .ne [(.prim (.listOf false) [(.prim .ix [(.var 3), (.lit (.int 0))])]), (.prim (.sortSet false) [(.prim .ix [(.var 3), (.lit (.int 0))])])]) (.not (.call i_law_are_worths [(.var 0), (.var 1), (.var 2), (.prim .ix [(.var 3), (.lit (.int 1))])] [] [.inl 0, .inl 1, .inl 2, .inl 3]))) [.ret (.lit (.bool false))] [], .ret (.prim .eq [(.call i_law_cost [(.var 0), (.var 1), (.var 2), (.prim .ix [(.var 3), (.lit (.int 0))])] [] [.inl 0, .inl 1, .inl 2, .inl 3]), (.prim .ix [(.prim .ix [(.var 3), (.lit (.int 1))]), (.prim .neg [(.lit (.int 1))])])])]
def F_law_is_least (i_law_are_worths : Nat) (i_law_cost : Nat) : Fn := ⟨4, 5, false, B_law_is_least i_law_are_worths i_law_cost⟩
/-- _law_frame _law_deck_here _law_wide -/
def B_law_frame (i_law_draw : Nat) : List MS := [.asg [.name 1] (.prim .ix [(.prim (.list false) [(.prim .add [(.lit (.int 1)), (.call i_law_draw [(.var 0), (.lit (.int 12))] [] [.inl 0, .inl 1])]), (.prim .add [(.lit (.int 4)), (.call i_law_draw [(.var 0), (.lit (.int 20))] [] [.inl 0, .inl 1])]), (.lit (.int 60)), (.lit (.int 200))]), (.call i_law_draw [(.var 0), (.lit (.int 4))] [] [.inl 0, .inl 1])]), .ret (.prim .tup [(.call i_law_draw [(.var 0), (.lit (.int 7))] [] [.inl 0, .inl 1]), (.prim .ix [(.prim (.list false) [(.lit (.int 4)), (.call i_law_draw [(.var 0), (.lit (.int 9))] [] [.inl 0, .inl 1])]), (.call i_law_draw [(.var 0), (.lit (.int 2))] [] [.inl 0, .inl 1])]), (.var 1)])]
def F_law_frame (i_law_draw : Nat) : Fn := ⟨1, 2, false, B_law_frame i_law_draw⟩
theorem scanI_get : ∀ (ls : List Int) (a : Int) (i : Nat), i ≤ ls.length → (scanI a ls).getD i 0 = a + (ls.take i).sum
  | [], a, i, h => by
    have e : i = 0 := by simpa using h
    subst e
    simp [scanI]
  | x :: r, a, 0, h => by simp [scanI]
  | x :: r, a, i + 1, h => by
    have ih := scanI_get r (a + x) i (by simpa using h)
    show (scanI (a + x) r).getD i 0 = _
    rw [ih]
    simp [List.take_succ_cons]
    omega
theorem cut_nat {A : Type} (xs : List A) {i j : Nat} (hi : i ≤ xs.length) (hj : j ≤ xs.length) : cut xs (some i) (some j) = (xs.drop i).take (j - i) := by
  have e1 : sIx xs.length 0 (some (i : Int)) = i := by
    show (if (i : Int) < 0 then ((i : Int) + (xs.length : Int)).toNat else min (i : Int).toNat xs.length) = i
    rw [if_neg (by omega)]; omega
  have e2 : sIx xs.length xs.length (some (j : Int)) = j := by
    show (if (j : Int) < 0 then ((j : Int) + (xs.length : Int)).toNat else min (j : Int).toNat xs.length) = j
    rw [if_neg (by omega)]; omega
  unfold cut
  rw [e1, e2]
theorem cut_sum {ls : List Int} {i j : Nat} (hij : i ≤ j) (hj : j ≤ ls.length) : ((ls.drop i).take (j - i)).sum = (scanI 0 ls).getD j 0 - (scanI 0 ls).getD i 0 := by
  rw [scanI_get ls 0 j hj, scanI_get ls 0 i (by omega)]
  have e : ls.take j = ls.take i ++ (ls.drop i).take (j - i) := by
    have := List.take_append_drop i (ls.take j)
    rw [List.take_take, List.drop_take] at this
    rw [Nat.min_eq_left hij] at this
    exact this.symm
  rw [e, List.sum_append]
  omega
theorem p_sum_tup (is : List Int) (h : Heap) : evP .sum [.tup (is.map .int)] h = .ok (.int is.sum) h := by
  show optV (((some (is.map Val.int)).bind intsOf).map fun is => Val.int is.sum) h = _
  rw [Option.bind_some, intsOf_map]
  rfl
theorem p_sum_list (is : List Int) (h : Heap) : evP .sum [.list (is.map .int)] h = .ok (.int is.sum) h := by
  show optV (((some (is.map Val.int)).bind intsOf).map fun is => Val.int is.sum) h = _
  rw [Option.bind_some, intsOf_map]
  rfl
theorem maxI0 (z : Int) : (if z > 0 then z else 0) = max 0 z := by
  by_cases q : z > 0
  · rw [if_pos q]; omega
  · rw [if_neg q]; omega
theorem frame_at (a b w : Int) (i : Nat) : atI [Val.int a, Val.int b, Val.int w] (if decide ((0 : Int) < (i : Int)) = true then 1 else 0) = some (.int (if i = 0 then a else b)) := by
  by_cases z : i = 0
  · subst z; rfl
  · rw [decide_eq_true (by omega), if_pos rfl, if_neg z]; rfl
theorem lline_ok {il : Nat} (el : G il = some F_law_line) {ls W : List Int} {a b w : Int} {i j : Nat} {h : Heap} (hij : i < j) (hj : j ≤ ls.length) (hW : ls.length ≤ W.length + 1) :
    callN G (k + 1) il [.tup (ls.map .int), .tup (W.map .int), .tup [.int a, .int b, .int w], .int i, .int j] h = .ok (.int (lcost (scanI 0 ls) W a b w i j)) h := by
  rw [call_succ el]
  refine run_pure rfl rfl rfl ?_
  show Wp (evB _ B_law_line [some (.tup (ls.map .int)), some (.tup (W.map .int)), some (.tup [.int a, .int b, .int w]), some (.int i), some (.int j), none, none] h) _
  refine wp_seq ?_
  decreasing_trivial
  rw [cut_nat _ (by rw [List.length_map]; omega) (by rw [List.length_map]; omega), ← List.map_drop, ← List.map_take, p_sum_tup, cut_sum (by omega) hj]
  decreasing_trivial
  refine wp_seq ?_
  decreasing_trivial
  rw [frame_at]
  decreasing_trivial
  refine wp_seq ?_
  decreasing_trivial
  rw [show atI [Val.int a, Val.int b, Val.int w] 2 = some (.int w) from rfl]
  decreasing_trivial
  rw [p_mul_int _ 1000 _ (by rfl)]
  decreasing_trivial
  refine wp_one ?_
  decreasing_trivial
  have sl : (scanI 0 ls).length = ls.length + 1 := scanI_len _ _
  refine wp_if (fun q => ?_) fun q => ?_
  · have q : j < ls.length := by
      have := of_decide_eq_true q
      rw [List.length_map] at this
      omega
    rw [atI_getD (n := j - 1) (by omega) (by omega)]
    decreasing_trivial
    refine pr_ret ?_
    unfold lcost
    rw [maxI0, if_pos (show j < (scanI 0 ls).length - 1 by omega)]
    congr 3
    congr 1
    omega
  · have q : ¬ j < ls.length := by
      have := of_decide_eq_false q
      rw [List.length_map] at this
      omega
    decreasing_trivial
    refine pr_ret ?_
    unfold lcost
    rw [maxI0, if_neg (show ¬ j < (scanI 0 ls).length - 1 by omega), Int.add_zero]
    congr 2
    congr 1
    omega
def prs : Nat → List Nat → List (Nat × Nat)
  | _, [] => []
  | s, t :: r => (s, t) :: prs t r
def pV (p : Nat × Nat) : Val := .tup [.int p.1, .int p.2]
theorem prs_zip : ∀ (s : Nat) (l : List Nat) (m : Nat), zipL (Val.int s :: l.map fun t : Nat => Val.int t) ((l ++ [m]).map fun t : Nat => Val.int t) = (prs s (l ++ [m])).map pV
  | s, [], m => rfl
  | s, t :: r, m => by
    show Val.tup [.int s, .int t] :: zipL (Val.int t :: r.map fun t : Nat => Val.int t) ((r ++ [m]).map fun t : Nat => Val.int t) = pV (s, t) :: (prs t (r ++ [m])).map pV
    rw [prs_zip]
    rfl
theorem prs_bco (S W : List Int) (a b w : Int) : ∀ (s : Nat) (l : List Nat), ((prs s l).map fun p => lcost S W a b w p.1 p.2).sum = bco S W a b w s l
  | s, [] => rfl
  | s, t :: r => by
    show lcost S W a b w s t + ((prs t r).map fun p => lcost S W a b w p.1 p.2).sum = lcost S W a b w s t + bco S W a b w t r
    rw [prs_bco]
theorem prs_up {c : Nat → Nat → Int} {m : Nat} {B : Nat → Int} : ∀ {s : Nat} {l : List Nat}, Br c m B s l → ∀ p ∈ prs s (l ++ [m]), p.1 < p.2 ∧ p.2 ≤ m
  | s, _, .nil h _, p, hp => by
    have hp : p ∈ [(s, m)] := hp
    rw [List.mem_singleton.mp hp]; exact ⟨h, Nat.le_refl _⟩
  | s, _, .cons (t := t) (l := r) a1 a2 _ _ _ a6, p, hp => by
    have hp : p ∈ (s, t) :: prs t (r ++ [m]) := hp
    rcases List.mem_cons.mp hp with rfl | hp
    · exact ⟨a1, Nat.le_of_lt a2⟩
    · exact prs_up a6 p hp
theorem prs_len : ∀ (s : Nat) (l : List Nat), (prs s l).length = l.length
  | _, [] => rfl
  | _, t :: r => congrArg Nat.succ (prs_len t r)
def lineV (S W : List Int) (a b w : Int) : Val → Val
  | .tup [.int i, .int j] => .int (lcost S W a b w i.toNat j.toNat)
  | v => v
theorem lcost_ok {ic il : Nat} (ec : G ic = some (F_law_cost il)) (el : G il = some F_law_line) {ls W : List Int} {a b w : Int} {l : List Nat} {h : Heap} (hW : ls.length ≤ W.length + 1) (h2 : ls.length ≤ 100000) (hl : l.length ≤ 100000) (hp : ∀ p ∈ prs 0 (l ++ [ls.length]), p.1 < p.2 ∧ p.2 ≤ ls.length) :
    callN G (k + 2) ic [.tup (ls.map .int), .tup (W.map .int), .tup [.int a, .int b, .int w], .tup ((brk l).map .int)] h = .ok (.int (bco (scanI 0 ls) W a b w 0 (l ++ [ls.length]))) h := by
  rw [call_succ ec]
  refine run_pure rfl rfl rfl ?_
  show Wp (evB _ (B_law_cost il) [some (.tup (ls.map .int)), some (.tup (W.map .int)), some (.tup [.int a, .int b, .int w]), some (.tup ((brk l).map .int)), none, none, none, none, none] h) _
  have SLv : SL = 16777216 := rfl
  refine wp_seq ?_
  decreasing_trivial
  refine Wp.of_eq (comp_int_map (fun c => .int (c + 1)) fun c _ => ?_) ?_
  · decreasing_trivial
  have e1 : (brk l).map (fun c => Val.int (c + 1)) = l.map fun t : Nat => Val.int (t : Int) := by
    unfold brk
    rw [List.map_map]
    refine List.map_congr_left fun t _ => ?_
    show Val.int ((t : Int) - 1 + 1) = _
    congr 1
    omega
  rw [e1, okList_ok _ _ (by rw [List.length_map]; omega)]
  decreasing_trivial
  have e2 : (l.map fun t : Nat => Val.int (t : Int)) ++ [Val.int ((ls.map Val.int).length : Int)] = (l ++ [ls.length]).map fun t : Nat => Val.int (t : Int) := by
    rw [List.map_append, List.length_map]; rfl
  rw [e2, okList_ok _ _ (by rw [List.length_map, List.length_append]; simp; omega)]
  decreasing_trivial
  refine wp_seq ?_
  decreasing_trivial
  rw [cut_front]
  have e3 : ((l ++ [ls.length]).map fun t : Nat => Val.int (t : Int)).dropLast = l.map fun t : Nat => Val.int (t : Int) := by
    rw [List.map_append]
    simp
  rw [e3]
  rw [okList_ok _ _ (by rw [List.length_cons, List.length_map]; omega)]
  decreasing_trivial
  refine wp_one ?_
  decreasing_trivial
  simp only [zipR, wp_ok]
  have e4 := prs_zip 0 l ls.length
  have e5 : Val.int 0 = Val.int ((0 : Nat) : Int) := rfl
  rw [e5, e4]
  refine Wp.of_eq (comp_map (lineV (scanI 0 ls) W a b w) fun c hc => ?_) ?_
  · obtain ⟨p, hp1, rfl⟩ := List.mem_map.mp hc
    obtain ⟨q1, q2⟩ := hp p hp1
    unfold pV
    decreasing_trivial
    rw [lline_ok (k := k) el q1 q2 hW]
    decreasing_trivial
    simp only [lineV, Int.toNat_natCast]
  · have e6 : ((prs 0 (l ++ [ls.length])).map pV).map (lineV (scanI 0 ls) W a b w) = ((prs 0 (l ++ [ls.length])).map fun p => lcost (scanI 0 ls) W a b w p.1 p.2).map Val.int := by
      rw [List.map_map, List.map_map]
      refine List.map_congr_left fun p _ => ?_
      simp only [Function.comp, pV, lineV, Int.toNat_natCast]
    rw [e6, okList_ok _ _ (by rw [List.length_map, List.length_map, prs_len, List.length_append]; simp; omega)]
    decreasing_trivial
    rw [p_sum_list, prs_bco]
    decreasing_trivial
    get_elem_tactic_trivial

/-! ### all ways of breaking -/
def allS : Nat → List (List Nat)
  | 0 => [[]]
  | n + 1 => allS n ++ (allS n).map (· ++ [n + 1])
def brkV (l : List Nat) : Val := .tup ((brk l).map .int)
def UpN : Nat → List Nat → Nat → Prop
  | s, [], m => s < m
  | s, t :: r, m => s < t ∧ UpN t r m
theorem UpN.lt : ∀ {s : Nat} {l : List Nat} {m : Nat}, UpN s l m → s < m
  | _, [], _, h => h
  | _, _ :: _, _, h => Nat.lt_trans h.1 (UpN.lt h.2)
theorem UpN.mono : ∀ {s : Nat} {l : List Nat} {m n : Nat}, UpN s l m → m ≤ n → UpN s l n
  | _, [], _, _, h, k => Nat.lt_of_lt_of_le h k
  | _, _ :: _, _, _, h, k => ⟨h.1, UpN.mono h.2 k⟩
theorem UpN.snoc : ∀ {s : Nat} {l : List Nat} {x m : Nat}, UpN s (l ++ [x]) m ↔ UpN s l x ∧ x < m
  | s, [], x, m => by simp [UpN]
  | s, t :: r, x, m => by
    show s < t ∧ UpN t (r ++ [x]) m ↔ (s < t ∧ UpN t r x) ∧ x < m
    rw [UpN.snoc, and_assoc]
theorem mem_allS : ∀ {n : Nat} {l : List Nat}, l ∈ allS n ↔ UpN 0 l (n + 1)
  | 0, l => by
    constructor
    · intro h
      rw [List.mem_singleton.mp h]
      exact Nat.lt_succ_self 0
    · intro h
      cases l with
      | nil => exact List.mem_singleton.mpr rfl
      | cons t r => have := h.1; have := h.2.lt; omega
  | n + 1, l => by
    show l ∈ allS n ++ (allS n).map (· ++ [n + 1]) ↔ _
    rw [List.mem_append, mem_allS, List.mem_map]
    constructor
    · rintro (h | ⟨l', h, rfl⟩)
      · exact h.mono (Nat.le_succ _)
      · exact UpN.snoc.mpr ⟨mem_allS.mp h, Nat.lt_succ_self _⟩
    · intro h
      rcases List.eq_nil_or_concat l with rfl | ⟨l', x, rfl⟩ <;> try rw [List.concat_eq_append] at *
      · exact .inl (Nat.succ_pos _)
      · obtain ⟨h1, h2⟩ := UpN.snoc.mp h
        by_cases e : x = n + 1
        · subst e
          exact .inr ⟨l', mem_allS.mpr h1, rfl⟩
        · exact .inl (UpN.snoc.mpr ⟨h1, by omega⟩)
theorem allS_len : ∀ n : Nat, (allS n).length = 2 ^ n
  | 0 => rfl
  | n + 1 => by
    show (allS n ++ (allS n).map (· ++ [n + 1])).length = _
    rw [List.length_append, List.length_map, allS_len n, Nat.pow_succ]
    omega
theorem UpN.len : ∀ {s : Nat} {l : List Nat} {m : Nat}, UpN s l m → l.length + s < m
  | _, [], _, h => by simpa [UpN] using h
  | s, t :: r, m, h => by
    have := UpN.len h.2
    have := h.1
    simp only [List.length_cons]
    omega
theorem UpN.prs : ∀ {s : Nat} {l : List Nat} {m : Nat}, UpN s l m → ∀ p ∈ prs s (l ++ [m]), p.1 < p.2 ∧ p.2 ≤ m
  | s, [], m, h, p, hp => by
    have hp : p ∈ [(s, m)] := hp
    rw [List.mem_singleton.mp hp]
    exact ⟨h, Nat.le_refl _⟩
  | s, t :: r, m, h, p, hp => by
    have hp : p ∈ (s, t) :: M.prs t (r ++ [m]) := hp
    rcases List.mem_cons.mp hp with rfl | hp
    · exact ⟨h.1, Nat.le_of_lt h.2.lt⟩
    · exact UpN.prs h.2 p hp
theorem Br.up {c : Nat → Nat → Int} {m : Nat} {B : Nat → Int} : ∀ {s : Nat} {l : List Nat}, Br c m B s l → UpN s l m
  | _, _, .nil h _ => h
  | _, _, .cons h _ _ _ _ k => ⟨h, Br.up k⟩
theorem UpN.ge {S W : List Int} {a b w : Int} {m : Nat} {B : Nat → Int} (hB : IsB (lcost S W a b w) m B) : ∀ {s : Nat} {l : List Nat}, UpN s l m → B s ≤ bco S W a b w s (l ++ [m])
  | s, [], h => by
    have := hB.le s m h (Nat.le_refl _)
    have := hB.z
    show B s ≤ lcost S W a b w s m + 0
    omega
  | s, t :: r, h => by
    have h1 := hB.le s t h.1 (Nat.le_of_lt h.2.lt)
    have h2 := UpN.ge hB h.2
    show B s ≤ lcost S W a b w s t + bco S W a b w t (r ++ [m])
    omega
/-- of all that cost least the first is the least tuple -/
theorem Br.least {S W : List Int} {a b w : Int} {m : Nat} {B : Nat → Int} (hB : IsB (lcost S W a b w) m B) : ∀ {s : Nat} {l l' : List Nat}, Br (lcost S W a b w) m B s l → UpN s l' m → bco S W a b w s (l' ++ [m]) = B s → l = l' ∨ brk l < brk l'
  | s, _, [], .nil _ _, _, _ => .inl rfl
  | s, _, t :: r, .nil _ _, _, _ => .inr (List.nil_lt_cons _ _)
  | s, _, [], .cons (t := t) (l := r) _ _ a3 _ _ _, h, e => by
    have e : lcost S W a b w s m + 0 = B s := e
    omega
  | s, _, t' :: r', .cons (t := t) (l := r) a1 a2 a3 a4 a5 a6, h, e => by
    have e : lcost S W a b w s t' + bco S W a b w t' (r' ++ [m]) = B s := e
    have g := UpN.ge hB h.2
    have le := hB.le s t' h.1 (Nat.le_of_lt h.2.lt)
    have ht : t ≤ t' := by
      refine Nat.le_of_not_lt fun q => ?_
      have := a4 t' h.1 q
      omega
    by_cases q : t = t'
    · subst q
      rcases Br.least hB a6 h.2 (by omega) with e2 | e2
      · exact .inl (by rw [e2])
      · refine .inr ?_
        show ((t : Int) - 1) :: brk r < ((t : Int) - 1) :: brk r'
        exact List.cons_lt_cons_iff.mpr (.inr ⟨rfl, e2⟩)
    · refine .inr ?_
      show ((t : Int) - 1) :: brk r < ((t' : Int) - 1) :: brk r'
      exact List.cons_lt_cons_iff.mpr (.inl (by omega))
/-! ### the least of pairs -/
abbrev PrI := Int × List Int
def encP (p : PrI) : Val := .tup [.int p.1, .tup (p.2.map .int)]
def plt (p q : PrI) : Prop := p.1 < q.1 ∨ p.1 = q.1 ∧ p.2 < q.2
instance (p q : PrI) : Decidable (plt p q) := by unfold plt; infer_instance
theorem toPys_ints (is : List Int) : toPys (is.map Val.int) = is.map PyData.int := by
  rw [toPys_map, List.map_map]; rfl
theorem dataLt_tints (xs ys : List Int) : PySem.W.dataLt (.tuple (xs.map .int)) (.tuple (ys.map .int)) = decide (xs < ys) := PySem.W.dataLt_ints xs ys
theorem eqv_tints : ∀ (xs ys : List Int), PyData.eqvAll (xs.map PyData.int) (ys.map PyData.int) = decide (xs = ys)
  | [], [] => rfl
  | [], _ :: _ => rfl
  | _ :: _, [] => rfl
  | x :: xs, y :: ys => by
    show ((x == y) && PyData.eqvAll (xs.map PyData.int) (ys.map PyData.int)) = _
    rw [eqv_tints xs ys]
    by_cases e : x = y
    · subst e; simp
    · simp [e]
theorem ltD_pair (p q : PrI) : ltD (encP p) (encP q) = decide (plt p q) := by
  show PySem.W.dataLt (.tuple [.int p.1, .tuple (toPys (p.2.map Val.int))]) (.tuple [.int q.1, .tuple (toPys (q.2.map Val.int))]) = _
  rw [toPys_ints, toPys_ints, PySem.W.dataLt_pair (by simp [PySem.W.alike]) (by simp [PySem.W.alike, PySem.W.alike_ints])]
  show (if (p.1 == q.1) = true then if PyData.eqvAll (p.2.map PyData.int) (q.2.map PyData.int) = true then false else PySem.W.dataLt (.tuple (p.2.map .int)) (.tuple (q.2.map .int)) else PySem.W.dataLt (.int p.1) (.int q.1)) = _
  rw [eqv_tints, dataLt_tints, PySem.W.dataLt_int]
  by_cases e : p.1 = q.1
  · rw [if_pos (by simpa using e)]
    by_cases e2 : p.2 = q.2
    · rw [if_pos (by simpa using e2)]
      refine (decide_eq_false ?_).symm
      rintro (z | ⟨_, z⟩)
      · omega
      · rw [e2] at z; exact List.lt_irrefl _ z
    · rw [if_neg (by simpa using e2)]
      refine decide_eq_decide.mpr ⟨fun z => .inr ⟨e, z⟩, ?_⟩
      rintro (z | ⟨_, z⟩)
      · omega
      · exact z
  · rw [if_neg (by simpa using e)]
    refine decide_eq_decide.mpr ⟨fun z => .inl z, ?_⟩
    rintro (z | ⟨z, _⟩)
    · exact z
    · exact absurd z e
theorem minV_pairs {r0 : PrI} : ∀ {ps : List PrI} {p : PrI}, r0 ∈ p :: ps → (∀ q ∈ p :: ps, q = r0 ∨ plt r0 q) → ¬ plt r0 r0 → (∀ q, plt r0 q → ¬ plt q r0) → minV (encP p) (ps.map encP) = encP r0
  | [], p, hm, _, _, _ => by rw [List.mem_singleton.mp hm]; rfl
  | q :: ps, p, hm, h, hi, ha => by
    show minV (if ltD (encP q) (encP p) then encP q else encP p) (ps.map encP) = _
    rw [ltD_pair]
    have hp := h p List.mem_cons_self
    have hq := h q (List.mem_cons_of_mem _ List.mem_cons_self)
    have e : (if decide (plt q p) = true then encP q else encP p) = encP (if plt q p then q else p) := by
      by_cases z : plt q p <;> simp [z]
    rw [e]
    refine minV_pairs ?_ ?_ hi ha
    · by_cases z : plt q p
      · rw [if_pos z]
        rcases List.mem_cons.mp hm with e2 | hm
        · subst e2
          rcases hq with e3 | e3
          · rw [e3]; exact List.mem_cons_self
          · exact absurd z (ha _ e3)
        · exact hm
      · rw [if_neg z]
        rcases List.mem_cons.mp hm with e2 | hm
        · rw [e2]; exact List.mem_cons_self
        · rcases List.mem_cons.mp hm with e2 | hm
          · subst e2
            rcases hp with e3 | e3
            · rw [e3]; exact List.mem_cons_self
            · exact absurd e3 z
          · exact List.mem_cons_of_mem _ hm
    · intro x hx
      rcases List.mem_cons.mp hx with e2 | hx
      · rw [e2]; split
        · exact hq
        · exact hp
      · exact h x (List.mem_cons_of_mem _ (List.mem_cons_of_mem _ hx))
theorem plt_irrefl (p : PrI) : ¬ plt p p := by
  rintro (h | ⟨_, h⟩)
  · exact Int.lt_irrefl _ h
  · exact List.lt_irrefl _ h
theorem plt_asymm {p q : PrI} (h : plt p q) : ¬ plt q p := by
  rintro (k | ⟨e, k⟩)
  · rcases h with h | ⟨e, h⟩
    · omega
    · omega
  · rcases h with h | ⟨_, h⟩
    · omega
    · exact List.lt_asymm h k
theorem cmpOk_pairs {ps : List PrI} : cmpOk (ps.map encP) = true := by
  unfold cmpOk
  have f : Val.flats (ps.map encP) = true := by
    refine flats_of fun x hx => ?_
    obtain ⟨p, _, rfl⟩ := List.mem_map.mp hx
    show (true && (Val.flats (p.2.map Val.int) && true)) = true
    rw [flats_ints]; rfl
  have d : Val.deeps (ps.map encP) ≤ 64 := by
    refine Nat.le_trans (deeps_le (d := 2) fun x hx => ?_) (by decide)
    obtain ⟨p, _, rfl⟩ := List.mem_map.mp hx
    show max 0 (max (Val.deeps (p.2.map Val.int) + 1) 0) + 1 ≤ 2
    have : Val.deeps (p.2.map Val.int) ≤ 0 := deeps_le fun x hx => by
      obtain ⟨i, _, rfl⟩ := List.mem_map.mp hx
      exact Nat.le_refl _
    omega
  have a : alikes (ps.map encP) = true := by
    unfold alikes
    rw [List.all_eq_true]
    intro x hx
    rw [List.all_eq_true]
    intro y hy
    obtain ⟨p, _, rfl⟩ := List.mem_map.mp hx
    obtain ⟨q, _, rfl⟩ := List.mem_map.mp hy
    show (true && (PySem.W.alikeAll (toPys (p.2.map Val.int)) (toPys (q.2.map Val.int)) && true)) = true
    rw [toPys_ints, toPys_ints, PySem.W.alike_ints]
    rfl
  rw [f, a, decide_eq_true d]
  simp only [Bool.true_and, List.all_eq_true]
  intro x hx
  obtain ⟨p, _, rfl⟩ := List.mem_map.mp hx
  rfl
theorem p_minD {x : Val} {r : List Val} (h : Heap) (c : cmpOk (x :: r) = true) : evP .minD [.list (x :: r)] h = .ok (minV x r) h := by
  show (if cmpOk (x :: r) = true then _ else _) = _
  rw [if_pos c]
theorem turns_map {A : Type} {step : Val → Heap → Res (List Val)} {h : Heap} (f g : A → Val) : ∀ {xs : List A}, (∀ x ∈ xs, step (f x) h = .ok [g x] h) → turns none step (xs.map f) h = .ok (xs.map g) h
  | [], _ => rfl
  | x :: r, k => by
    rw [List.map_cons, List.map_cons]
    unfold turns
    rw [if_pos (show pinned h none = true from rfl), k x List.mem_cons_self, bind_ok, turns_map f g fun y hy => k y (List.mem_cons_of_mem _ hy), bind_ok]
    rfl
/-! ### the law's own defs -/
theorem all_ok {i : Nat} (e : G i = some F_law_all_breaks) {n : Nat} {h : Heap} (hn : n ≤ 20) : callN G (k + 1) i [.int ((n : Int) + 1)] h = .ok (.list ((allS n).map brkV)) h := by
  rw [call_succ e]
  refine run_pure rfl rfl (by
    refine flat_lt ?_
    refine flats_of fun x hx => ?_
    obtain ⟨l, _, rfl⟩ := List.mem_map.mp hx
    exact flats_ints _) ?_
  show Wp (evB _ B_law_all_breaks [some (.int ((n : Int) + 1)), none, none, none] h) _
  have SLv : SL = 16777216 := rfl
  refine wp_seq ?_
  decreasing_trivial
  refine wp_seq ?_
  decreasing_trivial
  rw [show (n : Int) + 1 - 1 = n by omega, rangeL0_at (by omega) (by omega), wp_ok, Int.toNat_natCast]
  refine for_pre (pre := []) (I := fun pre ls h' => (∃ x2 x3, ls = [some (.int ((n : Int) + 1)), some (.list ((allS pre.length).map brkV)), x2, x3]) ∧ h' = h) (fun _ _ _ _ => rfl) ⟨⟨_, _, rfl⟩, rfl⟩ (fun p x q ep ls' h' ⟨⟨x2, x3, els⟩, eh⟩ => ?_) fun ls' h' ⟨⟨x2, x3, els⟩, eh⟩ => ?_
  · subst els eh
    obtain ⟨ex, hp⟩ := rangeL_split (N := n) (lo := 0) (by simpa using ep)
    subst ex
    have hl : (allS p.length).length ≤ 2 ^ 20 := by
      rw [allS_len]
      exact Nat.pow_le_pow_right (by decide) (by omega)
    decreasing_trivial
    refine wp_one ?_
    decreasing_trivial
    refine Wp.of_eq (comp_map (fun v => match v with
      | .tup xs => .tup (xs ++ [.int (0 + (p.length : Int))])
      | v => v) fun c hc => ?_) ?_
    · obtain ⟨l, hl, rfl⟩ := List.mem_map.mp hc
      have hu := (mem_allS.mp hl).len
      unfold brkV
      decreasing_trivial
      rw [okTup_ok _ _ (by rw [List.length_append, List.length_map, brk_len]; simp; omega)]
      decreasing_trivial
    · rw [List.map_map, okList_ok _ _ (by rw [List.length_map]; omega)]
      decreasing_trivial
      have e2 : (allS p.length).map brkV ++ (allS p.length).map ((fun v => match v with
        | .tup xs => .tup (xs ++ [.int (0 + (p.length : Int))])
        | v => v) ∘ brkV) = (allS (p.length + 1)).map brkV := by
        show _ = (allS p.length ++ (allS p.length).map (· ++ [p.length + 1])).map brkV
        rw [List.map_append, List.map_map]
        congr 1
        refine List.map_congr_left fun l _ => ?_
        show Val.tup ((brk l).map Val.int ++ [Val.int (0 + (p.length : Int))]) = Val.tup ((brk (l ++ [p.length + 1])).map Val.int)
        rw [brk_snoc]
        congr 3
        congr 1
        omega
      rw [e2, okList_ok _ _ (by
        rw [List.length_map, allS_len]
        have : 2 ^ (p.length + 1) ≤ 2 ^ 20 := Nat.pow_le_pow_right (by decide) (by omega)
        omega)]
      decreasing_trivial
      exact ⟨⟨some (.int (0 + (p.length : Int))), x3, by rw [List.length_append]; rfl⟩, by trivial⟩
  · subst els eh
    refine wp_one ?_
    rw [List.nil_append, rangeL_len]
    decreasing_trivial
    exact pr_ret rfl
theorem best_ok {i ia ic il : Nat} (e : G i = some (F_law_best ia ic)) (ea : G ia = some F_law_all_breaks) (ec : G ic = some (F_law_cost il)) (el : G il = some F_law_line) {ls W : List Int} {a b w : Int} {B : Nat → Int} {l : List Nat} {h : Heap}
    (h1 : 1 ≤ ls.length) (h2 : ls.length ≤ 20) (hW : ls.length ≤ W.length + 1) (hB : IsB (lcost (scanI 0 ls) W a b w) ls.length B) (hl : Br (lcost (scanI 0 ls) W a b w) ls.length B 0 l) :
    callN G (k + 3) i [.tup (ls.map .int), .tup (W.map .int), .tup [.int a, .int b, .int w]] h = .ok (.tup [.int (B 0), brkV l]) h := by
  rw [call_succ e]
  refine run_pure rfl rfl (by
    refine flat_lt ?_
    show (true && (Val.flats _ && true)) = true
    rw [flats_ints]
    rfl) ?_
  show Wp (evB _ (B_law_best ia ic) [some (.tup (ls.map .int)), some (.tup (W.map .int)), some (.tup [.int a, .int b, .int w]), none, none] h) _
  have SLv : SL = 16777216 := rfl
  obtain ⟨n, hn⟩ : ∃ n, ls.length = n + 1 := ⟨ls.length - 1, by omega⟩
  refine wp_seq ?_
  decreasing_trivial
  rw [List.length_map, hn, show ((n + 1 : Nat) : Int) = (n : Int) + 1 by omega, all_ok (k := k + 1) ea (by omega)]
  decreasing_trivial
  have hp : ∀ l' ∈ allS n, UpN 0 l' ls.length := fun l' hl' => by rw [hn]; exact mem_allS.mp hl'
  have hstep : ∀ l' ∈ allS n, callN G (k + 2) ic [.tup (ls.map .int), .tup (W.map .int), .tup [.int a, .int b, .int w], brkV l'] h = .ok (.int (bco (scanI 0 ls) W a b w 0 (l' ++ [ls.length]))) h := fun l' hl' =>
    lcost_ok (k := k) ec el hW (by omega) (by have := (hp l' hl').len; omega) (hp l' hl').prs
  refine Wp.of_eq (turns_map brkV (fun l' => encP (bco (scanI 0 ls) W a b w 0 (l' ++ [ls.length]), brk l')) fun l' hl' => ?_) ?_
  · have q := hstep l' hl'
    unfold brkV at q ⊢
    decreasing_trivial
    rw [q]
    decreasing_trivial
    rfl
  rw [okList_ok _ _ (by rw [List.length_map, allS_len]; exact Nat.le_trans (Nat.pow_le_pow_right (n := 2) (by decide) (show n ≤ 20 by omega)) (by decide))]
  decreasing_trivial
  refine wp_one ?_
  decreasing_trivial
  have em : (allS n).map (fun l' => encP (bco (scanI 0 ls) W a b w 0 (l' ++ [ls.length]), brk l')) = ((allS n).map fun l' => ((bco (scanI 0 ls) W a b w 0 (l' ++ [ls.length]), brk l') : PrI)).map encP := by
    rw [List.map_map]; rfl
  rw [em]
  have hne : ∃ p ps, ((allS n).map fun l' => ((bco (scanI 0 ls) W a b w 0 (l' ++ [ls.length]), brk l') : PrI)) = p :: ps := by
    cases e2 : (allS n).map fun l' => ((bco (scanI 0 ls) W a b w 0 (l' ++ [ls.length]), brk l') : PrI) with
    | nil =>
      have := congrArg List.length e2
      rw [List.length_map, allS_len] at this
      have := Nat.two_pow_pos n
      simp at *
    | cons p ps => exact ⟨p, ps, rfl⟩
  obtain ⟨p, ps, ep⟩ := hne
  have hl2 : l ∈ allS n := mem_allS.mpr (by rw [← hn]; exact hl.up)
  have r0 : ((B 0, brk l) : PrI) ∈ p :: ps := by
    rw [← ep]
    exact List.mem_map.mpr ⟨l, hl2, by rw [hl.cost hB]⟩
  have hall : ∀ q ∈ p :: ps, q = ((B 0, brk l) : PrI) ∨ plt (B 0, brk l) q := by
    rw [← ep]
    intro q hq
    obtain ⟨l', hl', rfl⟩ := List.mem_map.mp hq
    have g := UpN.ge hB (hp l' hl')
    by_cases z : bco (scanI 0 ls) W a b w 0 (l' ++ [ls.length]) = B 0
    · rcases Br.least hB hl (hp l' hl') z with e3 | e3
      · subst e3; exact .inl (by rw [z])
      · exact .inr (.inr ⟨z.symm, e3⟩)
    · exact .inr (.inl (by show B 0 < _; omega))
  rw [ep, List.map_cons, p_minD h (by rw [← List.map_cons]; exact cmpOk_pairs), minV_pairs r0 hall (plt_irrefl _) fun q hq => plt_asymm hq]
  decreasing_trivial
  exact pr_ret rfl
end
end M
namespace M
open PySem
local macro_rules | `(tactic| sizeOf_list_dec) => `(tactic| first | omega | (simp only [SL_val, List.length_map, List.length_append, List.length_cons, List.length_nil, rangeL_len, List.length_replicate, List.length_reverse]; omega) | (simp only [SL_val, List.length_map, List.length_append, List.length_cons, List.length_nil, rangeL_len, List.length_replicate, List.length_reverse]; done) | rfl)
local macro_rules | `(tactic| decreasing_trivial) => `(tactic| try simp (disch := sizeOf_list_dec) only [wp_bind, wp_ok, bind_ok, e_lit, e_var, e_prim, e_and, e_or, e_not, e_ite, e_chain, e_call, e_comp, e_frz, e_meth, es_nil, es_cons, c_nil, c_cons, i_val, i_range, i_enum, i_zip, s_asg, s_par, s_asg2, setsTg, s_aug, s_expr, s_ite, s_wh, s_for, s_ret, s_brk, t_ev, st_nil, st_cons, st_name, st_tup, st_ix,
  List.getElem?_cons_zero, List.getElem?_cons_succ, List.set_cons_zero, List.set_cons_succ, List.map_cons, List.map_nil, List.cons_append, List.nil_append, List.append_nil, List.replicate_succ, List.replicate_zero, selV, Option.map_some,
  p_add_int, p_add_str, p_add_tup, p_add_list, p_sub, p_neg, p_mul_int, p_fdiv, p_mod, p_pow6, p_eq_int, p_ne_int, p_eq_str, p_ne_str, p_lt, p_gt, p_le, p_ge, p_isNone, p_isNotNone, p_isTrue, p_isFalse, p_isNotTrue, p_isNotFalse, p_mem_sign, p_notmem_sign, p_ix_str, p_ix_list, p_ix_tup, optV_some, p_sl11, p_sl10, p_sl01, p_sl00, sl_str, sl_list, sl_tup, p_rev_str, p_rev_list, p_rev_tup, p_tup, p_list, p_len_str, p_len_list, p_len_tup, p_min2, p_max2, p_int_bool, p_int_int, p_bool, p_str_str, p_ord, p_listOf_list, p_listOf_tup, p_tupOf_list, p_tupOf_tup, truth_bool, truth_int, truth_str, truth_list, truth_tup, if_tt, if_ff, if_true, if_false, it_list, it_tup, it_str,
  rangeL0_at, at_0, at_1, at_2, at_3, decide_eq_true, decide_eq_false, beq_self_eq_true, Bool.not_true, Bool.not_false, Bool.false_eq_true, Bool.or_true, Bool.or_false, Bool.true_or, Bool.false_or, Bool.and_true, Bool.and_false, Bool.true_and, Bool.false_and, atI_ints, List.length_map, okList_ok, okTup_ok, okList_mut, SL_val, List.length_cons, List.length_nil, Nat.reduceAdd, Int.reduceToNat, Int.reducePow, Nat.reduceLeDiff, Nat.zero_add, killL, List.foldl_cons, List.foldl_nil, setTg])
local macro_rules | `(tactic| get_elem_tactic_trivial) => `(tactic| exact pr_ret rfl)
local macro_rules | `(tactic| array_mem_dec) => `(tactic| (refine (draw_at rfl (by omega) (by omega) (by assumption)).mono ?_; rintro _ _ ⟨⟨_, er, _, _⟩, _⟩; subst er; decreasing_trivial))
local macro_rules | `(tactic| array_get_dec) => `(tactic| decreasing_trivial; repeat (first | (refine wp_one ?_; decreasing_trivial) | (refine wp_seq ?_; decreasing_trivial) | array_mem_dec))
local macro_rules | `(tactic| clean_wf) => `(tactic| repeat (first | exact alln | refine allc (intIn (by omega) (by omega)) ?_))
local macro_rules | `(tactic| exists $ts,*) => `(tactic| (simp (disch := sizeOf_list_dec) only [$[$ts:term],*]; array_get_dec))

section
variable {G : Tab} {k : Nat}
theorem turns_filt {A : Type} {step : Val → Heap → Res (List Val)} {h : Heap} (f g : A → Val) (p : A → Bool) : ∀ {xs : List A}, (∀ x ∈ xs, step (f x) h = .ok (if p x then [g x] else []) h) → turns none step (xs.map f) h = .ok ((xs.filter p).map g) h
  | [], _ => rfl
  | x :: r, k => by
    rw [List.map_cons]
    unfold turns
    rw [if_pos (show pinned h none = true from rfl), k x List.mem_cons_self, bind_ok, turns_filt f g p fun y hy => k y (List.mem_cons_of_mem _ hy), bind_ok]
    cases z : p x <;> simp [z]
theorem wt_len : ∀ xs : List Val, xs.length ≤ wts xs
  | [] => Nat.zero_le _
  | x :: r => by
    have := wt_len r
    show r.length + 1 ≤ wt x + 2 + wts r
    omega
theorem eqv_nilL (xs : List Val) : eqv (.list xs) (.list []) = xs.isEmpty := by cases xs <;> rfl
theorem flat_reps {n : Nat} : Val.flats (List.replicate n (Val.int 1)) = true := flats_of fun x hx => by rw [(List.mem_replicate.mp hx).2]; rfl
theorem flats_const {A : Type} (l : List A) : Val.flats (l.map fun _ => Val.int 1) = true := flats_of fun x hx => by
  obtain ⟨_, _, rfl⟩ := List.mem_map.mp hx
  rfl
theorem deeps_const {A : Type} (l : List A) : Val.deeps (l.map fun _ => Val.int 1) ≤ 0 := deeps_le fun x hx => by
  obtain ⟨_, _, rfl⟩ := List.mem_map.mp hx
  exact Nat.le_refl _
theorem all_not_empty {xs : List Val} : (xs.filter fun v => isB v || !(isI v || isB v)).isEmpty = xs.all isI := by
  rw [Bool.eq_iff_iff, List.isEmpty_iff, List.filter_eq_nil_iff, List.all_eq_true]
  constructor
  · intro h v hv
    have := h v hv
    cases v <;> simp_all [isI, isB]
  · intro h v hv
    have := h v hv
    cases v <;> simp_all [isI, isB]
theorem lworths_ok {i il : Nat} (e : G i = some (F_law_are_worths il)) (el : G il = some F_law_line) {ls W : List Int} {a b w : Int} {v : Val} {h : Heap} (h1 : 1 ≤ ls.length) (h2 : ls.length ≤ 100000) (hW : ls.length ≤ W.length + 1)
    (av : okA v = true) (l : wt v ≤ 1000000) : callN G (k + 2) i [.tup (ls.map .int), .tup (W.map .int), .tup [.int a, .int b, .int w], v] h = .ok (.bool (worthsB (scanI 0 ls) W a b w v)) h := by
  have sl : (scanI 0 ls).length = ls.length + 1 := scanI_len _ _
  have SLv : SL = 16777216 := rfl
  rw [call_succ e]
  refine run_pure rfl rfl rfl ?_
  show Wp (evB _ (B_law_are_worths il) [some (.tup (ls.map .int)), some (.tup (W.map .int)), some (.tup [.int a, .int b, .int w]), some v, none, none, none] h) _
  refine wp_seq ?_
  decreasing_trivial
  rw [p_isi3 av]
  decreasing_trivial
  have no : isT v = false → worthsB (scanI 0 ls) W a b w v = false := fun z => by
    unfold worthsB
    cases v <;> first | rfl | cases z
  cases v with
  | tup xs =>
    try simp only [isT, Bool.not_true, if_ff, if_false]
    decreasing_trivial
    have hxs : xs.length ≤ 1000000 := by
      have := wt_len xs
      have : wts xs + 3 ≤ 1000000 := l
      omega
    have e1 : (((xs.length : Nat) : Int) == ((ls.length : Nat) : Int) + 1) = (xs.length == (scanI 0 ls).length) := by
      rw [Bool.eq_iff_iff, beq_iff_eq, beq_iff_eq, sl]
      omega
    rw [e1]
    cases hl : (xs.length == (scanI 0 ls).length) with
    | false =>
      have z : worthsB (scanI 0 ls) W a b w (.tup xs) = false := by
        unfold worthsB
        rw [show (items (.tup xs)).length = xs.length from rfl, hl]
        simp
      rw [z]
      try simp only [Bool.not_false, if_tt, if_true]
      refine wp_one ?_
      decreasing_trivial
      get_elem_tactic_trivial
    | true =>
      try simp only [Bool.not_true, if_ff, if_false, b_nil, wp_ok]
      have hl := eq_of_beq hl
      refine wp_seq ?_
      decreasing_trivial
      have hc := turns_filt (h := h) (step := fun v h => match setTg (.name 6) v (killL [6] [some (.tup (ls.map .int)), some (.tup (W.map .int)), some (.tup [.int a, .int b, .int w]), some (.tup xs), none, none, none]) with
        | some ls => (evC (callN G (k + 1)) [(.or (.prim (.isi [2]) [(.var 6)]) (.not (.prim (.isi [1]) [(.var 6)])))] ls h).bind fun b h => if b then (evE (callN G (k + 1)) (.lit (.int 1)) ls h).bind fun v h => .ok [v] h else .ok [] h
        | none => .stuck) (fun v : Val => v) (fun _ => .int 1) (fun v => isB v || !(isI v || isB v)) (xs := xs) (fun x hx => by
          have ax := okAs_mem av x hx
          refine Wp.eq ?_
          decreasing_trivial
          rw [p_isi2 ax]
          decreasing_trivial
          cases hb : isB x with
          | true =>
            decreasing_trivial
            exact ⟨by trivial, by trivial⟩
          | false =>
            simp only [if_ff, if_false]
            decreasing_trivial
            rw [p_isi1 ax, hb]
            decreasing_trivial
            cases hi : isI x with
            | true =>
              decreasing_trivial
              exact ⟨by trivial, by trivial⟩
            | false =>
              decreasing_trivial
              exact ⟨by trivial, by trivial⟩)
      rw [List.map_id'] at hc
      refine Wp.of_eq hc ?_
      have fl : (xs.filter fun v => isB v || !(isI v || isB v)).length ≤ xs.length := List.length_filter_le _ _
      rw [okList_ok _ _ (by rw [List.length_map]; omega)]
      decreasing_trivial
      rw [p_ne (a := .list ((xs.filter fun v => isB v || !(isI v || isB v)).map fun _ => Val.int 1)) (b := .list []) h (flats_const _) rfl (by
        have := deeps_const (xs.filter fun v => isB v || !(isI v || isB v))
        show Val.deeps _ + 1 ≤ 64
        omega) (by decide), eqv_nilL]
      have e3 : ((xs.filter fun v => isB v || !(isI v || isB v)).map fun _ => Val.int 1).isEmpty = xs.all isI := by
        rw [← all_not_empty]
        cases (xs.filter fun v => isB v || !(isI v || isB v)) <;> rfl
      rw [e3]
      decreasing_trivial
      unfold worthsB
      have e4 : numsB (.tup xs) = xs.all isI := rfl
      rw [e4]
      cases hn : xs.all isI with
      | false =>
        try simp only [Bool.not_false, if_tt, if_true, Bool.false_and]
        decreasing_trivial
        refine wp_one ?_
        decreasing_trivial
        get_elem_tactic_trivial
      | true =>
        obtain ⟨T, rfl⟩ := all_ints hn
        rw [List.length_map] at hl
        try simp only [Bool.not_true, if_ff, if_false, Bool.true_and, items, getI_map]
        decreasing_trivial
        have hlb : (T.length == (scanI 0 ls).length) = true := by simpa using hl
        rw [hlb]
        cases h0 : (T.getD 0 0 == 0) with
        | false =>
          try simp only [Bool.not_false, if_tt, if_true, Bool.false_and, Bool.true_and]
          refine wp_one ?_
          decreasing_trivial
          get_elem_tactic_trivial
        | true =>
          try simp only [Bool.not_true, if_ff, if_false, Bool.true_and, b_nil, wp_ok]
          refine wp_seq ?_
          decreasing_trivial
          have RLv : RL = 1000000000 := RL_eq
          rw [range_two (by omega) (by omega) (by omega) (by omega)]
          have en : ((((T.length : Nat) : Int) - 1).toNat) = (scanI 0 ls).length - 1 := by omega
          decreasing_trivial
          rw [en]
          refine (for_search (p := tooV (scanI 0 ls) W a b w T) (v := .bool false) (R := fun h' => h' = h) (I := fun ls' h' => h' = h ∧ ∃ x y z, ls' = [some (.tup (ls.map .int)), some (.tup (W.map .int)), some (.tup [.int a, .int b, .int w]), some (.tup (T.map .int)), x, y, z]) (fun _ _ _ => rfl) ⟨rfl, _, _, _, rfl⟩ (fun x hx ls' h' ⟨e1, y, z, u, e2⟩ => ?_)).mono fun f h1 q => ?_
          · subst e1 e2
            obtain ⟨j, rfl, j1, j2⟩ := rangeL_mem hx
            decreasing_trivial
            refine wp_one ?_
            decreasing_trivial
            refine (for_search (p := fun u => tooB (scanI 0 ls) W a b w T j.toNat (getI u).toNat) (v := .bool false) (R := fun h'' => h'' = h') (I := fun ls' h'' => h'' = h' ∧ ∃ y z, ls' = [some (.tup (ls.map .int)), some (.tup (W.map .int)), some (.tup [.int a, .int b, .int w]), some (.tup (T.map .int)), some (.int j), y, z]) (fun _ _ _ => rfl) ⟨rfl, _, _, rfl⟩ (fun x hx ls' h'' ⟨e1, y, z, e2⟩ => ?_)).mono fun f h1 q => ?_
            · subst e1 e2
              obtain ⟨s, rfl, s1, s2⟩ := rangeL_mem hx
              obtain ⟨sn, rfl⟩ : ∃ sn : Nat, s = (sn : Int) := ⟨s.toNat, by omega⟩
              obtain ⟨jn, rfl⟩ : ∃ jn : Nat, j = (jn : Int) := ⟨j.toNat, by omega⟩
              decreasing_trivial
              refine wp_one ?_
              decreasing_trivial
              rw [lline_ok (k := k) el (by omega) (by omega) hW]
              decreasing_trivial
              refine wp_if (fun q => ?_) fun q => ?_
              · refine wp_one ?_
                decreasing_trivial
                exact .inl ⟨q, trivial, trivial⟩
              · simp only [b_nil, wp_ok]
                exact .inr ⟨q, _, rfl, trivial, _, _, rfl⟩
            · rcases q with ⟨q1, rfl, rfl⟩ | ⟨q1, ls1, rfl, rfl, y, z, rfl⟩
              · exact .inl ⟨q1, rfl, rfl⟩
              · exact .inr ⟨q1, _, rfl, rfl, _, _, _, rfl⟩
          · rcases q with ⟨q1, rfl, rfl⟩ | ⟨q1, ls1, rfl, rfl, x, y, z, rfl⟩
            · rw [q1]
              exact pr_ret rfl
            · rw [q1]
              refine wp_one ?_
              decreasing_trivial
              get_elem_tactic_trivial
  | _ =>
    first
      | (cases av; done)
      | (rw [no rfl]
         try simp only [isT, Bool.not_false, if_tt, if_true, wp_ok, truth_bool]
         refine wp_one ?_
         decreasing_trivial
         exact pr_ret rfl)
/-! ### breaks that rise -/
theorem sortU_rising (is : List Int) : rising is = decide (is = sortU is) := by
    have key : rising is = true ↔ is.Pairwise (· < ·) := by
      induction is with
      | nil => simp [rising]
      | cons x r ih =>
        cases r with
        | nil => simp [rising]
        | cons y r =>
          have e : rising (x :: y :: r) = (decide (x < y) && rising (y :: r)) := rfl
          rw [e, Bool.and_eq_true, decide_eq_true_eq, ih, List.pairwise_cons (a := x)]
          constructor
          · rintro ⟨h1, h2⟩
            refine ⟨fun z hz => ?_, h2⟩
            rcases List.mem_cons.mp hz with rfl | hz
            · exact h1
            · have := (List.pairwise_cons.mp h2).1 z hz; omega
          · rintro ⟨h1, h2⟩
            exact ⟨h1 y List.mem_cons_self, h2⟩
    rw [Bool.eq_iff_iff, key, decide_eq_true_eq]
    constructor
    · intro h
      exact up_eq h (sortU_up is) fun z => sortU_mem.symm
    · intro h
      rw [h]
      exact sortU_up is
theorem rising_up {n : Nat} : ∀ {is : List Int} {s : Nat}, rising is = true → (∀ x ∈ is, (s : Int) ≤ x ∧ x < (n : Int) - 1) → s < n → UpN s (is.map fun x => (x + 1).toNat) n
  | [], s, _, _, h => h
  | [x], s, _, h, hn => by
    have := h x List.mem_cons_self
    show s < (x + 1).toNat ∧ (x + 1).toNat < n
    omega
  | x :: y :: r, s, hr, h, hn => by
    have hr' := Bool.and_eq_true_iff.mp (show (decide (x < y) && rising (y :: r)) = true from hr)
    have hx := h x List.mem_cons_self
    have hxy := of_decide_eq_true hr'.1
    have key : (y :: r).Pairwise (· < ·) := by
      have := hr'.2
      rw [sortU_rising, decide_eq_true_eq] at this
      rw [this]
      exact sortU_up _
    show s < (x + 1).toNat ∧ UpN (x + 1).toNat ((y :: r).map fun x => (x + 1).toNat) n
    refine ⟨by omega, rising_up hr'.2 (fun z hz => ?_) (by omega)⟩
    have hz2 := h z (List.mem_cons_of_mem _ hz)
    refine ⟨?_, hz2.2⟩
    rcases List.mem_cons.mp hz with rfl | hz
    · omega
    · have := (List.pairwise_cons.mp key).1 z hz; omega
theorem brk_back (is : List Int) (h : ∀ x ∈ is, 0 ≤ x) : brk (is.map fun x => (x + 1).toNat) = is := by
  unfold brk
  rw [List.map_map]
  have : is.map ((fun t : Nat => (t : Int) - 1) ∘ fun x => (x + 1).toNat) = is.map id := by
    refine List.map_congr_left fun x hx => ?_
    have := h x hx
    show (((x + 1).toNat : Nat) : Int) - 1 = x
    omega
  rw [this, List.map_id]
theorem eqvs_ints : ∀ a b : List Int, eqvs (a.map .int) (b.map .int) = decide (a = b)
  | [], [] => rfl
  | [], _ :: _ => rfl
  | _ :: _, [] => rfl
  | x :: a, y :: b => by
    show ((x == y) && eqvs (a.map .int) (b.map .int)) = _
    rw [eqvs_ints a b]
    by_cases e : x = y
    · subst e; simp
    · simp [e]
theorem intsOf_ints (is : List Int) : intsOf (is.map Val.int) = some is := intsOf_map is
theorem p_sortSet (is : List Int) (h : Heap) (l : is.length < 64) : evP (.sortSet false) [.tup (is.map .int)] h = .ok (.list ((sortU is).map .int)) h := by
  show (match intsOf (is.map Val.int) with
      | some is => if is.length < 64 then okList false ((sortU is).map .int) h else .stuck
      | none => .stuck) = _
  rw [intsOf_map]
  simp only
  rw [if_pos l, okList_ok]
  rw [List.length_map]
  have : ∀ l : List Int, (sortU l).length ≤ l.length := fun l => by
    induction l with
    | nil => exact Nat.le_refl _
    | cons i r ih =>
      have q : ∀ l : List Int, (insU i l).length ≤ l.length + 1 := fun l => by
        induction l with
        | nil => exact Nat.le_refl _
        | cons j t ih =>
          unfold insU
          split
          · exact Nat.le_refl _
          · split
            · exact Nat.le_succ _
            · simpa using ih
      have := q (sortU r)
      show (insU i (sortU r)).length ≤ _
      rw [List.length_cons]
      omega
  have := this is
  have SLv : SL = 16777216 := rfl
  omega
def badB (n : Int) (v : Val) : Bool := !(isI v && (decide (0 ≤ getI v) && decide (getI v < n - 1)))
theorem lisl_ok {i iw ic il : Nat} (e : G i = some (F_law_is_least iw ic)) (ew : G iw = some (F_law_are_worths il)) (ec : G ic = some (F_law_cost il)) (el : G il = some F_law_line) {ls W : List Int} {a b w : Int} {v : Val} {h : Heap} (h1 : 1 ≤ ls.length) (h2 : ls.length ≤ 100000) (hW : ls.length ≤ W.length + 1)
    (av : okA v = true) (l : wt v ≤ 1000000) (hx : ∀ xs y, v = .tup [.tup xs, y] → xs.length < 64) : callN G (k + 3) i [.tup (ls.map .int), .tup (W.map .int), .tup [.int a, .int b, .int w], v] h = .ok (.bool (holdsB ls W a b w v)) h := by
  have sl : (scanI 0 ls).length = ls.length + 1 := scanI_len _ _
  have SLv : SL = 16777216 := rfl
  rw [call_succ e]
  refine run_pure rfl rfl rfl ?_
  show Wp (evB _ (B_law_is_least iw ic) [some (.tup (ls.map .int)), some (.tup (W.map .int)), some (.tup [.int a, .int b, .int w]), some v, none] h) _
  refine wp_seq ?_
  decreasing_trivial
  rw [p_isi3 av]
  decreasing_trivial
  have no : isT v = false → holdsB ls W a b w v = false := fun z => by
    cases v <;> first | rfl | cases z
  cases v with
  | tup xs =>
    try simp only [isT, Bool.not_true, if_ff, if_false]
    decreasing_trivial
    simp only [len_eq2]
    by_cases h3 : xs.length = 2
    · obtain ⟨x, y, rfl⟩ : ∃ x y, xs = [x, y] := by
        match xs, h3 with
        | [x, y], _ => exact ⟨x, y, rfl⟩
      have ax : okA x = true := okAs_mem av x (by simp)
      have ay : okA y = true := okAs_mem av y (by simp)
      have lw : wt x + 2 + (wt y + 2 + 0) + 3 ≤ 1000000 := l
      simp only [List.length_cons, List.length_nil, decide_true, Bool.not_true, truth_bool, wp_ok, if_ff, if_false, b_nil]
      decreasing_trivial
      rw [p_isi3 ax]
      decreasing_trivial
      rw [holdsB_pair]
      have nx : isT x = false → breaksB ls.length x = false := fun z => by
        unfold breaksB
        cases x <;> first | rfl | cases z
      cases htx : isT x with
      | false =>
        rw [nx htx]
        try simp only [Bool.not_false, if_tt, if_true, Bool.false_and]
        refine wp_one ?_
        decreasing_trivial
        get_elem_tactic_trivial
      | true =>
        cases x with
        | tup xs =>
          have hxs := hx xs y rfl
          try simp only [Bool.not_true, if_ff, if_false, b_nil, wp_ok]
          refine wp_seq ?_
          decreasing_trivial
          refine (for_search (p := badB ls.length) (v := .bool false) (R := fun h' => h' = h) (I := fun ls' h' => h' = h ∧ ∃ x, ls' = [some (.tup (ls.map .int)), some (.tup (W.map .int)), some (.tup [.int a, .int b, .int w]), some (.tup [.tup xs, y]), x]) (fun _ _ _ => rfl) ⟨rfl, _, rfl⟩ (fun u hu ls' h' ⟨e1, z, e2⟩ => ?_)).mono fun f h1 q => ?_
          · subst e1 e2
            have au := okAs_mem ax u hu
            have bad : badB ls.length u = true → Wp (evB (callN G (k + 2)) [.ret (.lit (.bool false))] [some (.tup (ls.map .int)), some (.tup (W.map .int)), some (.tup [.int a, .int b, .int w]), some (.tup [.tup xs, y]), some u] h') fun f h'' => (badB ls.length u = true ∧ f = .ret (.bool false) ∧ h'' = h') ∨ (badB ls.length u = false ∧ ∃ ls'', f = .nx ls'' ∧ h'' = h' ∧ ∃ x, ls'' = [some (.tup (ls.map .int)), some (.tup (W.map .int)), some (.tup [.int a, .int b, .int w]), some (.tup [.tup xs, y]), x]) := fun z => by
              refine wp_one ?_
              decreasing_trivial
              exact .inl ⟨z, trivial, trivial⟩
            decreasing_trivial
            refine wp_one ?_
            decreasing_trivial
            rw [p_isi2 au]
            decreasing_trivial
            cases hb : isB u with
            | true =>
              decreasing_trivial
              exact bad (by cases u <;> first | rfl | cases hb)
            | false =>
              decreasing_trivial
              rw [p_isi1 au, hb]
              decreasing_trivial
              cases hi : isI u with
              | false =>
                decreasing_trivial
                exact bad (by unfold badB; rw [hi]; rfl)
              | true =>
                obtain ⟨c, rfl⟩ : ∃ c, u = .int c := by
                  cases u <;> first | exact ⟨_, rfl⟩ | cases hi
                have eb : badB ls.length (.int c) = !(decide (0 ≤ c) && decide (c < (ls.length : Int) - 1)) := rfl
                decreasing_trivial
                cases h0 : decide (0 ≤ c) with
                | false =>
                  decreasing_trivial
                  exact bad (by rw [eb, h0]; rfl)
                | true =>
                  decreasing_trivial
                  cases hc : decide (c < (ls.length : Int) - 1) with
                  | false =>
                    decreasing_trivial
                    exact bad (by rw [eb, h0, hc]; rfl)
                  | true =>
                    decreasing_trivial
                    try simp only [b_nil, wp_ok]
                    exact .inr ⟨by rw [eb, h0, hc]; rfl, _, rfl, trivial, _, rfl⟩
          · rcases q with ⟨q1, rfl, rfl⟩ | ⟨q1, ls1, rfl, rfl, z, rfl⟩
            · have e3 : breaksB ls.length (.tup xs) = false := by
                obtain ⟨u, hu, hb⟩ := List.any_eq_true.mp q1
                unfold breaksB
                refine Bool.eq_false_iff.mpr fun q => ?_
                simp only [Bool.and_eq_true] at q
                have g1 := (List.all_eq_true.mp (show xs.all isI = true from q.1.1)) u hu
                have g2 := (List.all_eq_true.mp q.1.2) u hu
                unfold badB at hb
                rw [g1, g2] at hb
                cases hb
              rw [e3]
              exact pr_ret rfl
            · have hg : ∀ u ∈ xs, isI u = true ∧ (decide (0 ≤ getI u) && decide (getI u < (ls.length : Int) - 1)) = true := fun u hu => by
                have := (List.any_eq_false.mp q1) u hu
                unfold badB at this
                simpa using this
              obtain ⟨is, rfl⟩ := all_ints (xs := xs) (List.all_eq_true.mpr fun u hu => (hg u hu).1)
              have hb : ∀ x ∈ is, 0 ≤ x ∧ x < (ls.length : Int) - 1 := fun x hx => by
                have := Bool.and_eq_true_iff.mp (hg (.int x) (List.mem_map.mpr ⟨x, hx, rfl⟩)).2
                exact ⟨of_decide_eq_true this.1, of_decide_eq_true this.2⟩
              rw [List.length_map] at hxs
              have e3 : breaksB ls.length (.tup (is.map .int)) = rising is := by
                unfold breaksB
                have g1 : numsB (.tup (is.map .int)) = true := ints_all is
                have g2 : (items (.tup (is.map .int))).all (fun x => decide (0 ≤ getI x) && decide (getI x < (ls.length : Int) - 1)) = true := List.all_eq_true.mpr fun u hu => (hg u hu).2
                rw [g1, g2, show (items (.tup (is.map .int))).map getI = is from getI_map is]
                rfl
              have e4 : ∀ h, evP .ne [.list (is.map .int), .list ((sortU is).map .int)] h = .ok (.bool (!rising is)) h := fun h => by
                rw [p_ne h (show (Val.list (is.map .int)).flat = true from flats_ints _) (show (Val.list ((sortU is).map .int)).flat = true from flats_ints _) (by show Val.deeps _ + 1 ≤ 64; rw [deeps_ints]; decide) (by show Val.deeps _ + 1 ≤ 64; rw [deeps_ints]; decide), sortU_rising]
                show Res.ok (Val.bool (!eqvs (is.map .int) ((sortU is).map .int))) h = _
                rw [eqvs_ints]
              have e5 := fun h => p_sortSet is h hxs
              rw [e3]
              have lwo := fun h => lworths_ok (k := k) (h := h) ew el (ls := ls) (W := W) (a := a) (b := b) (w := w) (v := y) (by assumption) h2 hW ay (by omega)
              refine wp_seq ?_
              array_get_dec
              rw [e5, wp_ok, e4, wp_ok]
              have no2 : Wp (evB (callN G (k + 2)) [.ret (.lit (.bool false))] [some (.tup (ls.map .int)), some (.tup (W.map .int)), some (.tup [.int a, .int b, .int w]), some (.tup [.tup (is.map .int), y]), z] h1) (PR h1 (.bool false)) := by
                refine wp_one ?_
                decreasing_trivial
                get_elem_tactic_trivial
              cases hr : rising is with
              | false =>
                array_get_dec
                exact no2
              | true =>
                array_get_dec
                rw [lwo]
                cases hw : worthsB (scanI 0 ls) W a b w y with
                | false =>
                  array_get_dec
                  exact no2
                | true =>
                  have hw' := hw
                  unfold worthsB at hw'
                  simp only [Bool.and_eq_true] at hw'
                  obtain ⟨ws, rfl⟩ : ∃ ws, y = .tup ws := by
                    have := hw'.1.1.1
                    cases y <;> first | exact ⟨_, rfl⟩ | cases this
                  obtain ⟨T, rfl⟩ := all_ints hw'.1.1.1
                  have lT : T.length = ls.length + 1 := by
                    have := hw'.1.1.2
                    simp only [items, List.length_map, beq_iff_eq] at this
                    omega
                  obtain ⟨t, ht⟩ : ∃ t, T.getLast? = some t := by
                    cases T with
                    | nil => simp at lT
                    | cons z r => exact ⟨_, List.getLast?_cons⟩
                  have up := rising_up (n := ls.length) (s := 0) hr (fun x hx => by have := hb x hx; omega) (by omega)
                  have hcs := fun h => lcost_ok (k := k) (h := h) ec el (ls := ls) (W := W) (a := a) (b := b) (w := w) (l := is.map fun x => (x + 1).toNat) hW (by omega) (by rw [List.length_map]; omega) up.prs
                  rw [brk_back is fun x hx => (hb x hx).1] at hcs
                  have e6 : atI (T.map Val.int) (-1) = some (.int t) := atI_last' (by rw [List.getLast?_map, ht]; rfl)
                  have e7 : stopsOf (scanI 0 ls) ((items (.tup (is.map .int))).map getI) = is.map (fun x => (x + 1).toNat) ++ [ls.length] := by
                    rw [show (items (.tup (is.map .int))).map getI = is from getI_map is]
                    unfold stopsOf
                    rw [sl]
                    rfl
                  have e8 : ((items (.tup (T.map .int))).map getI).getLast?.getD 0 = t := by
                    rw [show (items (.tup (T.map .int))).map getI = T from getI_map T, ht]
                    rfl
                  rw [e7, e8]
                  array_get_dec
                  rw [hcs]
                  decreasing_trivial
                  rw [e6]
                  decreasing_trivial
                  get_elem_tactic_trivial
        | _ => cases htx
    · simp only [decide_eq_false h3, Bool.not_false, truth_bool, wp_ok, if_tt, if_true]
      have e2 : holdsB ls W a b w (.tup xs) = false := by
        unfold holdsB
        split
        · rename_i q
          cases q
          exact absurd rfl h3
        · rfl
      rw [e2]
      refine wp_one ?_
      decreasing_trivial
      get_elem_tactic_trivial
  | _ =>
    first
      | (cases av; done)
      | (rw [no rfl]
         try simp only [isT, Bool.not_false, if_tt, if_true, wp_ok, truth_bool]
         refine wp_one ?_
         decreasing_trivial
         exact pr_ret rfl)
end
end M
namespace M
open PySem
/-! ### what stands behind the deck -/
theorem Dk.new {rest h : Heap} (o : Obj) (d : Dk rest h) : h.length = rest.length + 2 ∧ Dk (rest ++ [o]) (h ++ [o]) := by
  obtain ⟨c, s, t, hc, rfl⟩ := d
  exact ⟨by rw [List.length_append]; show 2 + _ = _; omega, c, s, t, hc, by rw [List.append_assoc]⟩
theorem Dk.len {rest h : Heap} (d : Dk rest h) : h.length = rest.length + 2 := (d.new .dead).1
theorem Dk.get {a b h : Heap} {o : Obj} (d : Dk (a ++ o :: b) h) : h[a.length + 2]? = some o := by
  obtain ⟨c, s, t, hc, rfl⟩ := d
  show (a ++ o :: b)[a.length]? = some o
  simp
theorem Dk.set {a b h : Heap} {o : Obj} (o' : Obj) (d : Dk (a ++ o :: b) h) : Dk (a ++ o' :: b) (h.set (a.length + 2) o') := by
  obtain ⟨c, s, t, hc, rfl⟩ := d
  refine ⟨c, s, t, hc, ?_⟩
  show (deck c s t ++ (a ++ o :: b)).set (a.length + 2) o' = _
  have : (a ++ o :: b).set a.length o' = a ++ o' :: b := by simp
  rw [← this]
  rfl
theorem ixN_int {n : Nat} {z : Int} (h0 : 0 ≤ z) (h1 : z < n) : ixN n z = some z.toNat := by
  unfold ixN
  rw [if_pos h0, if_pos h1]
/-- xs[i] = v, of a list behind the deck -/
theorem s_put {ls : Loc} {h : Heap} {n : Nat} {z : Int} {v : Val} {xs : List Val} {Q : Loc → Heap → Prop} (hn : h[n]? = some (.list xs)) (h0 : 0 ≤ z) (h1 : z < xs.length) (q : Q ls (h.set n (.list (xs.set z.toNat v)))) : Wp (ref1S (.ref n) h fun n => int1S (.int z) fun j => lst1S h n fun xs => match ixN xs.length j with
    | some k => Res.ok ls (h.set n (.list (xs.set k v)))
    | none => .stuck) Q := by
  show Wp (lst1S h n fun xs => match ixN xs.length z with
    | some k => Res.ok ls (h.set n (.list (xs.set k v)))
    | none => .stuck) Q
  unfold lst1S
  rw [hn]
  simp only
  rw [ixN_int h0 h1]
  exact q
theorem p_tupOf_mut {n : Nat} {xs : List Val} {h : Heap} (e : h[n]? = some (.list xs)) (l : xs.length ≤ 1000000) : evP .tupOf [.ref n] h = .ok (.tup xs) h := by
  show seq1 h (.ref n) (fun xs => okTup xs h) = _
  unfold seq1 seqOf dr
  simp only [e]
  exact okTup_ok _ _ (Nat.le_trans l (by decide))
theorem p_listOf_mut {n : Nat} {xs : List Val} {h : Heap} (e : h[n]? = some (.list xs)) (l : xs.length ≤ 1000000) : evP (.listOf false) [.ref n] h = .ok (.list xs) h := by
  show seq1 h (.ref n) (fun xs => okList false xs h) = _
  unfold seq1 seqOf dr
  simp only [e]
  exact okList_ok _ _ (Nat.le_trans l (by decide))
theorem p_ix_mut {n : Nat} {xs : List Val} {h : Heap} (e : h[n]? = some (.list xs)) (i : Int) : evP .ix [.ref n, .int i] h = optV (atI xs i) h := by
  show int1 (.int i) (fun i => optV (ixV h (.ref n) i) h) = _
  unfold int1 ixV dr
  simp only [e]
theorem p_len_mut {n : Nat} {xs : List Val} {h : Heap} (e : h[n]? = some (.list xs)) : evP .len [.ref n] h = .ok (.int xs.length) h := by
  show optV ((lenV h (.ref n)).map fun n => .int n) h = _
  unfold lenV dr
  simp only [e]
  rfl
theorem all_set {P : Val → Prop} {v : Val} (hv : P v) : ∀ {xs : List Val} (n : Nat), (∀ x ∈ xs, P x) → ∀ x ∈ xs.set n v, P x := fun n h x hx => by
  rcases List.mem_or_eq_of_mem_set hx with hx | rfl
  · exact h x hx
  · exact hv
end M
namespace M
open PySem
local macro_rules | `(tactic| decreasing_trivial) => `(tactic| try simp only [wp_bind, wp_ok, bind_ok, e_lit, e_var, e_prim, e_and, e_or, e_not, e_ite, e_chain, e_call, e_comp, e_frz, e_meth, es_nil, es_cons, c_nil, c_cons, i_val, i_range, i_enum, i_zip, s_asg, s_par, s_asg2, setsTg, s_aug, s_expr, s_ite, s_wh, s_for, s_ret, s_brk, t_ev, st_nil, st_cons, st_name, st_tup, st_ix,
  List.getElem?_cons_zero, List.getElem?_cons_succ, List.set_cons_zero, List.set_cons_succ, List.map_cons, List.map_nil, List.cons_append, List.nil_append, List.append_nil, List.replicate_succ, List.replicate_zero, selV, Option.map_some,
  p_add_int, p_add_str, p_add_tup, p_add_list, p_sub, p_neg, p_eq_int, p_ne_int, p_eq_str, p_ne_str, p_lt, p_gt, p_le, p_ge, p_isNone, p_isNotNone, p_isTrue, p_isFalse, p_isNotTrue, p_isNotFalse, p_mem_sign, p_notmem_sign, p_ix_str, p_ix_list, p_ix_tup, optV_some, p_sl11, p_sl10, p_sl01, p_sl00, sl_str, sl_list, sl_tup, p_rev_str, p_rev_list, p_rev_tup, p_tup, p_list, p_len_str, p_len_list, p_len_tup, p_min2, p_max2, p_int_bool, p_int_int, p_bool, p_str_str, p_ord, p_listOf_list, p_listOf_tup, p_tupOf_list, p_tupOf_tup, truth_bool, truth_int, truth_str, truth_list, truth_tup, if_tt, if_ff, if_true, if_false, it_list, it_tup, it_str,
  okList_ok, okTup_ok, SL_val, List.length_cons, List.length_nil, Nat.reduceAdd, Nat.reduceLeDiff, Nat.zero_add, killL, List.foldl_cons, List.foldl_nil, setTg])
local macro_rules | `(tactic| get_elem_tactic_trivial) => `(tactic| exact pr_ret rfl)
section
variable {G : Tab} {k : Nat}
def B_law_ahead_1 (i_law_line : Nat) : List MS := [.expr (.meth .append (.var 3) [(.prim .min1 [(.comp false [5] (.name 5) (.range [(.var 4)]) [] (.prim .add [(.prim .ix [(.var 3), (.var 5)]), (.call i_law_line [(.var 0), (.var 1), (.var 2), (.var 5), (.var 4)] [] [.inl 0, .inl 1, .inl 2, .inl 3, .inl 4])]))])])]
/-- _law_ahead _law_lengths _law_weights _law_frame_here _law_found _law_stop _law_k -/
def B_law_ahead (i_law_line : Nat) : List MS := [.asg [.name 3] (.prim (.list true) [(.lit (.int 0))]), .for (.name 4) (.range [(.lit (.int 1)), (.prim .add [(.prim .len [(.var 0)]), (.lit (.int 1))])]) (B_law_ahead_1 i_law_line), .ret (.frz (.var 3))]
def F_law_ahead (i_law_line : Nat) : Fn := ⟨3, 6, false, B_law_ahead i_law_line⟩
def B_law_behind_2 (i_law_line : Nat) : List MS := [.expr (.meth .append (.var 6) [(.prim .add [(.call i_law_line [(.var 0), (.var 1), (.var 2), (.var 5), (.var 7)] [] [.inl 0, .inl 1, .inl 2, .inl 3, .inl 4]), (.prim .ix [(.var 4), (.var 7)])])])]
def B_law_behind_1 (i_law_line : Nat) : List MS := [.asg [.name 6] (.prim (.list true) []), .for (.name 7) (.range [(.prim .add [(.var 5), (.lit (.int 1))]), (.prim .add [(.var 3), (.lit (.int 1))])]) (B_law_behind_2 i_law_line), .asg [.ix (.var 4) (.var 5)] (.prim .min1 [(.var 6)])]
/-- _law_behind _law_lengths _law_weights _law_frame_here _law_many _law_costs _law_start _law_some _law_stop _law_cost_here -/
def B_law_behind (i_law_line : Nat) : List MS := [.asg [.name 3] (.prim .len [(.var 0)]), .asg [.name 4] (.prim .mulm [(.prim (.list false) [(.lit (.int 0))]), (.prim .add [(.var 3), (.lit (.int 1))])]), .for (.name 5) (.range [(.prim .sub [(.var 3), (.lit (.int 1))]), (.prim .neg [(.lit (.int 1))]), (.prim .neg [(.lit (.int 1))])]) (B_law_behind_1 i_law_line), .ret (.comp false [8] (.name 8) (.val (.var 4)) [] (.prim .sub [(.prim .ix [(.var 4), (.lit (.int 0))]), (.var 8)]))]
def F_law_behind (i_law_line : Nat) : Fn := ⟨3, 9, false, B_law_behind i_law_line⟩
theorem lahead_ok {i il : Nat} (e : G i = some (F_law_ahead il)) (el : G il = some F_law_line) {ls W : List Int} {a b w : Int} {F : Nat → Int} {h : Heap} (h1 : 1 ≤ ls.length) (h2 : ls.length ≤ 100000) (hW : ls.length ≤ W.length + 1) (hF : IsF (lcost (scanI 0 ls) W a b w) ls.length F) :
    callN G (k + 2) i [.tup (ls.map .int), .tup (W.map .int), .tup [.int a, .int b, .int w]] h = .ok (.list ((tabI F (ls.length + 1)).map .int)) h := by
  rw [call_succ e]
  have fl : (Val.list ((tabI F (ls.length + 1)).map .int)).flat = true := flats_ints _
  refine run_pure rfl rfl (flat_lt fl) ?_
  show Wp (evB _ (B_law_ahead il) [some (.tup (ls.map .int)), some (.tup (W.map .int)), some (.tup [.int a, .int b, .int w]), none, none, none] h) _
  have SLv : SL = 16777216 := rfl
  have RLv : RL = 1000000000 := RL_eq
  refine wp_seq ?_
  decreasing_trivial
  rw [okList_mut _ _ (by show 1 ≤ SL; decide)]
  decreasing_trivial
  refine wp_seq ?_
  have er : itRange [.int 1, .int ((ls.length : Int) + 1)] = some (rangeL 1 ls.length) := by
    rw [range_two (by omega) (by omega) (by omega) (by omega)]
    congr 2
    omega
  rw [s_for, range2_at (i := 1) (j := (ls.length : Int) + 1) rfl (by decreasing_trivial; rw [List.length_map]) er, bind_ok]
  refine for_pre (pre := []) (I := fun pre ls' h' => ∃ x, ls' = [some (.tup (ls.map .int)), some (.tup (W.map .int)), some (.tup [.int a, .int b, .int w]), some (.ref h.length), x, none] ∧ h' = h ++ [.list ((tabI F (pre.length + 1)).map .int)]) (fun _ _ _ _ => rfl) ⟨none, rfl, by
    show _ = h ++ [Obj.list ((tabI F 1).map .int)]
    have : (tabI F 1).map Val.int = [.int 0] := by simp [tabI, hF.z]
    rw [this]⟩ (fun p x q hf ls' h' ⟨y, e1, e2⟩ => ?_) (fun ls' h' ⟨y, e1, e2⟩ => ?_)
  · subst e1 e2
    obtain ⟨rfl, hl⟩ := rangeL_split hf
    have at0 : (h ++ [Obj.list ((tabI F (p.length + 1)).map .int)] : Heap)[h.length]? = some (.list ((tabI F (p.length + 1)).map .int)) := at_end _ _ _
    decreasing_trivial
    refine wp_one ?_
    decreasing_trivial
    simp only [recv_append at0, if_tt, if_true]
    decreasing_trivial
    rw [range_one (by omega) (by omega)]
    have en : ((1 : Int) + p.length).toNat = p.length + 1 := by omega
    decreasing_trivial
    rw [en, rangeL0]
    refine Wp.of_eq (comp_int_map (fun c => .int (F c.toNat + lcost (scanI 0 ls) W a b w c.toNat (p.length + 1))) fun c hc => ?_) ?_
    · obtain ⟨t, ht, rfl⟩ := List.mem_map.mp hc
      have ht := List.mem_range.mp ht
      decreasing_trivial
      rw [ix_ref at0, atI_getD (n := t) (by omega) (by rw [tabI_len]; omega), tabI_get F (by omega)]
      decreasing_trivial
      rw [show (1 : Int) + (p.length : Int) = ((p.length + 1 : Nat) : Int) by omega, lline_ok (k := k) el (by omega) (by omega) hW]
      decreasing_trivial
      rw [Int.toNat_natCast]
    · rw [List.map_map, okList_ok _ _ (by simp; omega)]
      decreasing_trivial
      have e4 : (List.range (p.length + 1)).map ((fun c : Int => Val.int (F c.toNat + lcost (scanI 0 ls) W a b w c.toNat (p.length + 1))) ∘ fun t : Nat => (t : Int)) = ((List.range (p.length + 1)).map fun t => F t + lcost (scanI 0 ls) W a b w t (p.length + 1)).map Val.int := by
        rw [List.map_map]
        refine List.map_congr_left fun t _ => ?_
        simp only [Function.comp, Int.toNat_natCast]
      rw [e4, p_min_eq (b := F (p.length + 1)) (fun x hx => by
        obtain ⟨t, ht, rfl⟩ := List.mem_map.mp hx
        have ht := List.mem_range.mp ht
        exact hF.le t (p.length + 1) ht (by omega)) (by
        obtain ⟨t, t1, t2⟩ := hF.ex (p.length + 1) (by omega) (by omega)
        rw [t2]
        exact List.mem_map.mpr ⟨t, List.mem_range.mpr t1, rfl⟩)]
      decreasing_trivial
      rw [append_ref at0 (by rw [List.length_map, tabI_len]; omega), set_end]
      decreasing_trivial
      exact ⟨_, rfl, by rw [← tabI_succ]; simp⟩
  · subst e1 e2
    rw [List.nil_append, rangeL_len]
    refine wp_one ?_
    decreasing_trivial
    rw [frz_ok (at_end _ _ _), set_end]
    decreasing_trivial
    exact ⟨rfl, _, rfl⟩
theorem mulm_one {x : Val} {n : Int} {h : Heap} (h1 : 0 ≤ n) (h2 : n ≤ 1000000) : evP .mulm [.list [x], .int n] h = .ok (.ref h.length) (h ++ [.list (List.replicate n.toNat x)]) := by
  show (if [x].length * n.toNat ≤ SL ∧ inM n = true then okList true (List.replicate n.toNat [x]).flatten h else .stuck) = _
  have SLv : SL = 16777216 := rfl
  have e : ∀ n : Nat, (List.replicate n [x]).flatten = List.replicate n x := fun n => by
    induction n with
    | zero => rfl
    | succ n ih => rw [List.replicate_succ, List.replicate_succ, List.flatten_cons, ih]; rfl
  rw [if_pos ⟨by simp only [List.length_cons, List.length_nil]; omega, inM_iff.mpr ⟨by omega, by omega⟩⟩, e, okList_mut _ _ (by rw [List.length_replicate]; omega)]
theorem s_ixput {cl : CallFn} {ls : Loc} {h h1 : Heap} {a i e : ME} {n k : Nat} {z : Int} {v : Val} {xs : List Val} (he : evE cl e ls h = .ok v h1) (ha : evE cl a ls h1 = .ok (.ref n) h1) (hi : evE cl i ls h1 = .ok (.int z) h1) (hn : h1[n]? = some (.list xs)) (hk : ixN xs.length z = some k) :
    evS cl (.asg [.ix a i] e) ls h = .ok (.nx ls) (h1.set n (.list (xs.set k v))) := by
  rw [s_asg, he, bind_ok, st_cons, st_ix, ha, bind_ok, hi, bind_ok, r1S_ref]
  unfold int1S lst1S
  simp only [hn, hk]
  rfl
theorem ixN_nat {n k : Nat} (h : k < n) : ixN n (k : Int) = some k := by
  unfold ixN
  rw [if_pos (by omega), if_pos (by omega), Int.toNat_natCast]
/-- what the inner loop found -/

theorem p_min_ref {n : Nat} {l : List Int} {b : Int} {h : Heap} (e : h[n]? = some (.list (l.map .int))) (hl : ∀ x ∈ l, b ≤ x) (m : b ∈ l) : evP .min1 [.ref n] h = .ok (.int b) h := by
  have q := p_min_eq (h := h) hl m
  have e1 : lstOf h (.ref n) = some (l.map .int) := by
    unfold lstOf dr
    simp only [e]
  have e2 : lstOf h (.list (l.map .int)) = some (l.map .int) := rfl
  show (match (lstOf h (.ref n)).bind intsOf with
    | some (i :: r) => Res.ok (Val.int (minI i r)) h
    | _ => .stuck) = _
  rw [e1, ← e2]
  exact q
def costL (B : Nat → Int) (n s : Nat) : List Int := (List.range (n + 1)).map fun j => if s ≤ j then B j else 0
theorem costL_len {B : Nat → Int} {n s : Nat} : (costL B n s).length = n + 1 := by simp [costL]
theorem costL_get {B : Nat → Int} {n s j : Nat} (h : j ≤ n) : (costL B n s).getD j 0 = if s ≤ j then B j else 0 := by
  simp [costL, List.getD, Nat.lt_succ_of_le h]
theorem costL_top {B : Nat → Int} {n : Nat} (hz : B n = 0) : costL B n n = List.replicate (n + 1) 0 := by
  refine List.ext_getElem (by simp [costL]) fun j h1 h2 => ?_
  simp only [costL, List.getElem_map, List.getElem_range, List.getElem_replicate]
  split
  · rename_i q
    have : j < n + 1 := by simpa [costL] using h1
    have : j = n := by omega
    rw [this, hz]
  · rfl
theorem costL_set {B : Nat → Int} {n s : Nat} (h : s < n) : (costL B n (s + 1)).set s (B s) = costL B n s := by
  refine List.ext_getElem (by simp [costL]) fun j h1 h2 => ?_
  rw [List.getElem_set]
  simp only [costL, List.getElem_map, List.getElem_range]
  by_cases e : s = j
  · subst e
    rw [if_pos rfl, if_pos (Nat.le_refl _)]
  · rw [if_neg e]
    by_cases q : s ≤ j
    · rw [if_pos (by omega), if_pos q]
    · rw [if_neg (by omega), if_neg q]
theorem costL_zero {B : Nat → Int} {n : Nat} : costL B n 0 = tabI B (n + 1) := by
  unfold costL tabI
  refine List.map_congr_left fun j _ => ?_
  rw [if_pos (Nat.zero_le _)]
theorem map_set_int (xs : List Int) (n : Nat) (i : Int) : (xs.map Val.int).set n (.int i) = (xs.set n i).map Val.int := by
  rw [List.map_set]
theorem lbehind_ok {i il : Nat} (e : G i = some (F_law_behind il)) (el : G il = some F_law_line) {ls W : List Int} {a b w : Int} {B : Nat → Int} {h : Heap} (h1 : 1 ≤ ls.length) (h2 : ls.length ≤ 100000) (hW : ls.length ≤ W.length + 1) (hB : IsB (lcost (scanI 0 ls) W a b w) ls.length B) :
    callN G (k + 2) i [.tup (ls.map .int), .tup (W.map .int), .tup [.int a, .int b, .int w]] h = .ok (.list ((tabI (fun j => B 0 - B j) (ls.length + 1)).map .int)) h := by
  have SLv : SL = 16777216 := rfl
  have RLv : RL = 1000000000 := RL_eq
  obtain ⟨n, hn⟩ : ∃ n, ls.length = n := ⟨_, rfl⟩
  rw [hn] at h1 h2 hW hB ⊢
  rw [call_succ e]
  refine run_pure rfl rfl (flat_lt (v := .list _) (flats_ints _)) ?_
  show Wp (evB _ (B_law_behind il) [some (.tup (ls.map .int)), some (.tup (W.map .int)), some (.tup [.int a, .int b, .int w]), none, none, none, none, none, none] h) _
  refine wp_seq ?_
  decreasing_trivial
  rw [List.length_map, hn]
  refine wp_seq ?_
  decreasing_trivial
  rw [mulm_one (by omega) (by omega)]
  decreasing_trivial
  have e0 : List.replicate ((n : Int) + 1).toNat (Val.int 0) = (costL B n n).map .int := by
    rw [costL_top hB.z, List.map_replicate]
    congr 1
  rw [e0]
  refine wp_seq ?_
  have er : itRange [.int ((n : Int) - 1), .int (-1), .int (-1)] = some (rangeD ((n : Int) - 1) n) := by
    rw [range_down (by omega) (by omega) (by omega) (by omega)]
    congr 2
    omega
  have ei : evI (callN G (k + 1)) (.range [(.prim .sub [(.var 3), (.lit (.int 1))]), (.prim .neg [(.lit (.int 1))]), (.prim .neg [(.lit (.int 1))])]) [some (.tup (ls.map .int)), some (.tup (W.map .int)), some (.tup [.int a, .int b, .int w]), some (.int n), some (.ref h.length), none, none, none, none] (h ++ [.list ((costL B n n).map .int)]) = .ok (rangeD ((n : Int) - 1) n, none) (h ++ [.list ((costL B n n).map .int)]) := by
    decreasing_trivial
    rw [er]
  rw [s_for, ei, bind_ok]
  refine for_pre (pre := []) (I := fun pre ls' h' => ∃ x y z u t, ls' = [some (.tup (ls.map .int)), some (.tup (W.map .int)), some (.tup [.int a, .int b, .int w]), some (.int n), some (.ref h.length), x, y, z, u] ∧ h' = h ++ .list ((costL B n (n - pre.length)).map .int) :: t) (fun _ _ _ _ => rfl) ⟨_, _, _, _, [], rfl, rfl⟩ (fun p x q hf ls' h' ⟨x5, y, z, u, t, e1, e2⟩ => ?_) (fun ls' h' ⟨x5, y, z, u, t, e1, e2⟩ => ?_)
  · subst e1 e2
    obtain ⟨rfl, hl⟩ := rangeD_split hf
    obtain ⟨s, hs⟩ : ∃ s, n = s + (p.length + 1) := ⟨n - (p.length + 1), by omega⟩
    have es : (n : Int) - 1 - p.length = (s : Int) := by omega
    have es2 : n - p.length = s + 1 := by omega
    have es3 : n - (p ++ [Val.int ((n : Int) - 1 - p.length)]).length = s := by rw [List.length_append]; simp; omega
    rw [es3, es, es2]
    generalize hC : costL B n (s + 1) = C
    have hCl : C.length = n + 1 := by rw [← hC]; exact costL_len
    decreasing_trivial
    refine wp_seq ?_
    decreasing_trivial
    rw [okList_mut _ _ (by show 0 ≤ SL; omega)]
    decreasing_trivial
    generalize hH : (h ++ Obj.list (C.map .int) :: t) = H
    have hC0 : ∀ x, (H ++ [x])[h.length]? = some (.list (C.map .int)) := fun x => by
      rw [← hH, List.append_assoc, List.cons_append]
      exact at_end _ _ _
    refine wp_seq ?_
    have er2 := range_nat (s := s) (m := n) (n := p.length + 1) (by omega) (by omega)
    rw [s_for, range2_at (i := (s : Int) + 1) (j := (n : Int) + 1) (by decreasing_trivial) (by decreasing_trivial) er2, bind_ok]
    refine for_pre (pre := []) (I := fun pre ls' h' => ∃ z, ls' = [some (.tup (ls.map .int)), some (.tup (W.map .int)), some (.tup [.int a, .int b, .int w]), some (.int n), some (.ref h.length), some (.int s), some (.ref H.length), z, u] ∧ h' = H ++ [.list ((tabI (fun t => lcost (scanI 0 ls) W a b w s (s + 1 + t) + B (s + 1 + t)) pre.length).map .int)]) (fun _ _ _ _ => rfl) ⟨_, rfl, rfl⟩ (fun p' x q' hf' ls' h' ⟨z, e1, e2⟩ => ?_) (fun ls' h' ⟨z, e1, e2⟩ => ?_)
    · subst e1 e2
      obtain ⟨rfl, hp'⟩ : x = .int ((s + 1 + p'.length : Nat) : Int) ∧ p'.length < p.length + 1 := by
        have e3 := congrArg (fun l : List Val => l[p'.length]?) hf'
        simp only [List.nil_append] at e3
        rw [List.getElem?_append_right (Nat.le_refl _), Nat.sub_self, List.getElem?_cons_zero, List.getElem?_map, List.getElem?_map] at e3
        by_cases q : p'.length < p.length + 1
        · rw [List.getElem?_range q] at e3
          exact ⟨Option.some.inj e3, q⟩
        · rw [List.getElem?_eq_none (by simpa using q)] at e3
          cases e3
      have atr : (H ++ [Obj.list ((tabI (fun t => lcost (scanI 0 ls) W a b w s (s + 1 + t) + B (s + 1 + t)) p'.length).map .int)])[H.length]? = some (.list ((tabI (fun t => lcost (scanI 0 ls) W a b w s (s + 1 + t) + B (s + 1 + t)) p'.length).map .int)) := at_end _ _ _
      decreasing_trivial
      refine wp_one ?_
      decreasing_trivial
      simp only [recv_append atr, if_tt, if_true]
      decreasing_trivial
      rw [lline_ok (k := k) el (by omega) (by omega) (by omega)]
      decreasing_trivial
      rw [p_ix_mut (hC0 _), atI_getD (n := s + 1 + p'.length) rfl (by omega), ← hC, costL_get (by omega), if_pos (by omega)]
      decreasing_trivial
      rw [append_ref atr (by rw [List.length_map, tabI_len]; omega), set_end]
      decreasing_trivial
      refine ⟨_, rfl, ?_⟩
      rw [List.length_append, show p'.length + [Val.int ((s + 1 + p'.length : Nat) : Int)].length = p'.length + 1 from rfl, tabI_succ]
    · subst e1 e2
      rw [List.nil_append, List.length_map, List.length_map, List.length_range]
      have atr : (H ++ [Obj.list ((tabI (fun t => lcost (scanI 0 ls) W a b w s (s + 1 + t) + B (s + 1 + t)) (p.length + 1)).map .int)])[H.length]? = some (.list ((tabI (fun t => lcost (scanI 0 ls) W a b w s (s + 1 + t) + B (s + 1 + t)) (p.length + 1)).map .int)) := at_end _ _ _
      have hm := p_min_ref atr (b := B s) (fun x hx => by
        obtain ⟨t, ht, rfl⟩ := List.mem_map.mp hx
        have ht := List.mem_range.mp ht
        exact hB.le s (s + 1 + t) (by omega) (by omega)) (by
        obtain ⟨j, j1, j2, j3⟩ := hB.ex s (by omega)
        rw [j3]
        exact List.mem_map.mpr ⟨j - (s + 1), List.mem_range.mpr (by omega), by rw [show s + 1 + (j - (s + 1)) = j by omega]⟩)
      refine wp_one ?_
      rw [s_ixput (n := h.length) (z := s) (v := .int (B s)) (xs := C.map .int) (k := s) (by decreasing_trivial; rw [hm]) (by decreasing_trivial) (by decreasing_trivial) (hC0 _) (by rw [List.length_map]; exact ixN_nat (by omega))]
      refine ⟨_, _, _, _, t ++ [Obj.list ((tabI (fun t => lcost (scanI 0 ls) W a b w s (s + 1 + t) + B (s + 1 + t)) (p.length + 1)).map .int)], rfl, ?_⟩
      rw [map_set_int, ← hC, costL_set (by omega), ← hH, List.append_assoc, List.cons_append, set_end]
  · subst e1 e2
    rw [List.nil_append, rangeD_len, Nat.sub_self, costL_zero]
    have at0 : (h ++ Obj.list ((tabI B (n + 1)).map .int) :: t : Heap)[h.length]? = some (.list ((tabI B (n + 1)).map .int)) := at_end _ _ _
    refine wp_one ?_
    have ei : evI (callN G (k + 1)) (.val (.var 4)) [some (.tup (ls.map .int)), some (.tup (W.map .int)), some (.tup [.int a, .int b, .int w]), some (.int n), some (.ref h.length), x5, y, z, u] (h ++ Obj.list ((tabI B (n + 1)).map .int) :: t) = .ok ((tabI B (n + 1)).map .int, some (h.length, (tabI B (n + 1)).map .int)) (h ++ Obj.list ((tabI B (n + 1)).map .int) :: t) := by
      rw [i_val, e_var, List.getElem?_cons_succ, List.getElem?_cons_succ, List.getElem?_cons_succ, List.getElem?_cons_succ, List.getElem?_cons_zero]
      show (match (match (h ++ Obj.list ((tabI B (n + 1)).map .int) :: t : Heap)[h.length]? with
        | some (Obj.list xs) => some (xs, some (h.length, xs))
        | _ => none) with
        | some p => Res.ok p _
        | none => .stuck) = _
      rw [at0]
    rw [s_ret, e_comp, ei, bind_ok]
    rw [turns_pure (g := fun v => [match v with | .int c => .int (B 0 - c) | v => v]) (by show (match (h ++ Obj.list ((tabI B (n + 1)).map .int) :: t : Heap)[h.length]? with | some (Obj.list ys) => Val.sames ys _ | _ => false) = true; rw [at0]; exact sames_refl _) (fun x hx => by
      obtain ⟨c, _, rfl⟩ := List.mem_map.mp hx
      decreasing_trivial
      rw [p_ix_mut at0, show ((0 : Int)) = ((0 : Nat) : Int) from rfl, atI_getD (n := 0) rfl (by rw [tabI_len]; omega), tabI_get B (by omega)]
      decreasing_trivial)]
    rw [bind_ok, flatMap_one, List.map_map, okList_ok _ _ (by rw [List.length_map, tabI_len]; omega), bind_ok, wp_ok]
    have e2 : (tabI B (n + 1)).map ((fun v : Val => match v with | .int c => Val.int (B 0 - c) | v => v) ∘ Val.int) = (tabI (fun j => B 0 - B j) (n + 1)).map Val.int := by
      unfold tabI
      rw [List.map_map, List.map_map]
      rfl
    exact ⟨by rw [← e2], _, rfl⟩
end
end M
namespace M
open PySem
/-! ### things of any kind -/
mutual
def thV (b m : Nat) : Val → Bool
  | .none => true
  | .bool _ => true
  | .int i => decide (i.natAbs ≤ b)
  | .str s => s.all fun c => decide (c < 128)
  | .tup xs => decide (xs.length ≤ m) && thVs b m xs
  | .list xs => thVs b m xs
  | .dict ks vs => decide (ks.length = vs.length) && (thVs b m ks && thVs b m vs)
  | _ => false
def thVs (b m : Nat) : List Val → Bool
  | [] => true
  | x :: r => thV b m x && thVs b m r
end
theorem thVs_iff {b m : Nat} : ∀ {xs : List Val}, thVs b m xs = true ↔ ∀ x ∈ xs, thV b m x = true
  | [] => by simp [thVs]
  | x :: r => by
    show (thV b m x && thVs b m r) = true ↔ _
    rw [Bool.and_eq_true, thVs_iff (xs := r), List.forall_mem_cons]
mutual
theorem thV_okA {b m : Nat} (hb : b < 2 ^ 1000) : ∀ {v : Val}, thV b m v = true → okA v = true
  | .none, _ => rfl
  | .bool _, _ => rfl
  | .int i, h => decide_eq_true (Nat.lt_of_le_of_lt (of_decide_eq_true h) hb)
  | .str _, h => h
  | .tup xs, h => thVs_okA hb (Bool.and_eq_true_iff.mp h).2
  | .list xs, h => thVs_okA hb h
  | .dict ks vs, h => by
    have h2 := Bool.and_eq_true_iff.mp (Bool.and_eq_true_iff.mp h).2
    exact Bool.and_eq_true_iff.mpr ⟨thVs_okA hb h2.1, thVs_okA hb h2.2⟩
  | .obj .., h => by cases h
  | .ref _, h => by cases h
  | .scr _, h => by cases h
theorem thVs_okA {b m : Nat} (hb : b < 2 ^ 1000) : ∀ {xs : List Val}, thVs b m xs = true → okAs xs = true
  | [], _ => rfl
  | x :: r, h => by
    have h := Bool.and_eq_true_iff.mp h
    exact Bool.and_eq_true_iff.mpr ⟨thV_okA hb h.1, thVs_okA hb h.2⟩
end
mutual
theorem thV_dat {b m : Nat} : ∀ {v : Val}, thV b m v = true → v.dat = true
  | .none, _ => rfl
  | .bool _, _ => rfl
  | .int i, h => rfl
  | .str _, h => rfl
  | .tup xs, h => thVs_dat (Bool.and_eq_true_iff.mp h).2
  | .list xs, h => thVs_dat (b := b) (m := m) h
  | .dict ks vs, h => by
    have h1 := Bool.and_eq_true_iff.mp h
    have h2 := Bool.and_eq_true_iff.mp h1.2
    exact Bool.and_eq_true_iff.mpr ⟨Bool.and_eq_true_iff.mpr ⟨thVs_dat h2.1, thVs_dat h2.2⟩, h1.1⟩
  | .obj .., h => by cases h
  | .ref _, h => by cases h
  | .scr _, h => by cases h
theorem thVs_dat {b m : Nat} : ∀ {xs : List Val}, thVs b m xs = true → Val.dats xs = true
  | [], _ => rfl
  | x :: r, h => by
    have h := Bool.and_eq_true_iff.mp h
    exact Bool.and_eq_true_iff.mpr ⟨thV_dat h.1, thVs_dat h.2⟩
end
mutual
theorem thV_lt {b m n : Nat} : ∀ {v : Val}, thV b m v = true → v.lt n = true
  | .none, _ => rfl
  | .bool _, _ => rfl
  | .int i, h => rfl
  | .str _, h => rfl
  | .tup xs, h => thVs_lt (Bool.and_eq_true_iff.mp h).2
  | .list xs, h => thVs_lt (b := b) (m := m) h
  | .dict ks vs, h => by
    have h1 := Bool.and_eq_true_iff.mp h
    have h2 := Bool.and_eq_true_iff.mp h1.2
    exact Bool.and_eq_true_iff.mpr ⟨thVs_lt h2.1, thVs_lt h2.2⟩
  | .obj .., h => by cases h
  | .ref _, h => by cases h
  | .scr _, h => by cases h
theorem thVs_lt {b m n : Nat} : ∀ {xs : List Val}, thVs b m xs = true → Val.lts n xs = true
  | [], _ => rfl
  | x :: r, h => by
    have h := Bool.and_eq_true_iff.mp h
    exact Bool.and_eq_true_iff.mpr ⟨thV_lt h.1, thVs_lt h.2⟩
end
mutual
theorem thV_mono {b m b' m' : Nat} (hb : b ≤ b') (hm : m ≤ m') : ∀ {v : Val}, thV b m v = true → thV b' m' v = true
  | .none, _ => rfl
  | .bool _, _ => rfl
  | .int i, h => decide_eq_true (Nat.le_trans (of_decide_eq_true h) hb)
  | .str _, h => h
  | .tup xs, h => by
    have h := Bool.and_eq_true_iff.mp h
    exact Bool.and_eq_true_iff.mpr ⟨decide_eq_true (Nat.le_trans (of_decide_eq_true h.1) hm), thVs_mono hb hm h.2⟩
  | .list xs, h => thVs_mono (b := b) (m := m) hb hm h
  | .dict ks vs, h => by
    have h1 := Bool.and_eq_true_iff.mp h
    have h2 := Bool.and_eq_true_iff.mp h1.2
    exact Bool.and_eq_true_iff.mpr ⟨h1.1, Bool.and_eq_true_iff.mpr ⟨thVs_mono hb hm h2.1, thVs_mono hb hm h2.2⟩⟩
  | .obj .., h => by cases h
  | .ref _, h => by cases h
  | .scr _, h => by cases h
theorem thVs_mono {b m b' m' : Nat} (hb : b ≤ b') (hm : m ≤ m') : ∀ {xs : List Val}, thVs b m xs = true → thVs b' m' xs = true
  | [], _ => rfl
  | x :: r, h => by
    have h := Bool.and_eq_true_iff.mp h
    exact Bool.and_eq_true_iff.mpr ⟨thV_mono hb hm h.1, thVs_mono hb hm h.2⟩
end
theorem wts_app : ∀ xs ys : List Val, wts (xs ++ ys) = wts xs + wts ys
  | [], ys => (Nat.zero_add _).symm
  | x :: r, ys => by
    show wt x + 2 + wts (r ++ ys) = wt x + 2 + wts r + wts ys
    rw [wts_app]; omega
theorem wts_rev : ∀ xs : List Val, wts xs.reverse = wts xs
  | [] => rfl
  | x :: r => by
    rw [List.reverse_cons, wts_app, wts_rev r]
    show wts r + (wt x + 2 + 0) = wt x + 2 + wts r
    omega
theorem wts_td (n : Nat) (xs : List Val) : wts (xs.take n) + wts (xs.drop n) = wts xs := by rw [← wts_app, List.take_append_drop]
theorem wts_cut (xs : List Val) (lo hi : Option Int) : wts (cut xs lo hi) ≤ wts xs := by
  unfold cut
  have h1 := wts_td (sIx xs.length 0 lo) xs
  have h2 := wts_td (sIx xs.length xs.length hi - sIx xs.length 0 lo) (xs.drop (sIx xs.length 0 lo))
  omega
theorem mem_cut {A : Type} {xs : List A} {lo hi : Option Int} {x : A} (h : x ∈ cut xs lo hi) : x ∈ xs := List.mem_of_mem_drop (List.mem_of_mem_take h)
theorem deeps_mem : ∀ {xs : List Val} {x : Val}, x ∈ xs → x.deep ≤ Val.deeps xs
  | y :: r, x, h => by
    show x.deep ≤ max y.deep (Val.deeps r)
    rcases List.mem_cons.mp h with rfl | h
    · exact Nat.le_max_left _ _
    · exact Nat.le_trans (deeps_mem h) (Nat.le_max_right _ _)
theorem wts_mem : ∀ {xs : List Val} {x : Val}, x ∈ xs → wt x + 2 ≤ wts xs
  | y :: r, x, h => by
    show wt x + 2 ≤ wt y + 2 + wts r
    rcases List.mem_cons.mp h with rfl | h
    · omega
    · have := wts_mem h; omega
/-- a thing: numbers to b, tuples to m, so many signs, so deep -/
structure Th (b m c d : Nat) (v : Val) : Prop where
  k : thV b m v = true
  l : wt v ≤ c
  d : v.deep ≤ d
theorem Th.mono {b m c d b' m' c' d' : Nat} {v : Val} (t : Th b m c d v) (h1 : b ≤ b') (h2 : m ≤ m') (h3 : c ≤ c') (h4 : d ≤ d') : Th b' m' c' d' v := ⟨thV_mono h1 h2 t.k, Nat.le_trans t.l h3, Nat.le_trans t.d h4⟩
theorem th_tup {b m c d : Nat} {xs : List Val} (h : ∀ x ∈ xs, thV b m x = true) (l : xs.length ≤ m) (w : wts xs + 3 ≤ c) (hd : ∀ x ∈ xs, x.deep + 1 ≤ d) (h0 : 1 ≤ d) : Th b m c d (.tup xs) := by
  refine ⟨Bool.and_eq_true_iff.mpr ⟨decide_eq_true l, thVs_iff.mpr h⟩, w, ?_⟩
  show Val.deeps xs + 1 ≤ d
  have : Val.deeps xs ≤ d - 1 := deeps_le fun x hx => by have := hd x hx; omega
  omega
theorem th_list {b m c d : Nat} {xs : List Val} (h : ∀ x ∈ xs, thV b m x = true) (w : wts xs + 2 ≤ c) (hd : ∀ x ∈ xs, x.deep + 1 ≤ d) (h0 : 1 ≤ d) : Th b m c d (.list xs) := by
  refine ⟨thVs_iff.mpr h, w, ?_⟩
  show Val.deeps xs + 1 ≤ d
  have : Val.deeps xs ≤ d - 1 := deeps_le fun x hx => by have := hd x hx; omega
  omega
theorem Th.items {b m c d : Nat} {xs : List Val} (t : Th b m c d (.tup xs)) : xs.length ≤ m ∧ wts xs + 3 ≤ c ∧ ∀ x ∈ xs, thV b m x = true ∧ x.deep + 1 ≤ d := by
  have h := Bool.and_eq_true_iff.mp t.k
  refine ⟨of_decide_eq_true h.1, t.l, fun x hx => ⟨thVs_iff.mp h.2 x hx, ?_⟩⟩
  have h1 := deeps_mem hx
  have h2 : Val.deeps xs + 1 ≤ d := t.d
  omega
theorem th_int {b m c d : Nat} {i : Int} (h : i.natAbs ≤ b) (hc : 1001 ≤ c) : Th b m c d (.int i) := ⟨decide_eq_true h, hc, Nat.zero_le _⟩
theorem th_bool {b m c d : Nat} {x : Bool} (hc : 5 ≤ c) : Th b m c d (.bool x) := ⟨rfl, hc, Nat.zero_le _⟩
theorem th_none {b m c d : Nat} (hc : 5 ≤ c) : Th b m c d .none := ⟨rfl, hc, Nat.zero_le _⟩
theorem p_dict1 {i : Int} {v : Val} {h : Heap} : evP (.dict1 false) [.int i, v] h = .ok (.dict [.int i] [v]) h := rfl
theorem Th.repr {b m c d : Nat} {v : Val} (t : Th b m c d v) (h : Heap) (hb : b < 2 ^ 1000) (hc : c ≤ SL) (hd : d ≤ 64) : evP .repr [v] h = .ok (.str (reprT v)) h :=
  p_repr h (thV_okA hb t.k) (thV_dat t.k) (Nat.le_trans t.d hd) (Nat.le_trans t.l hc)
theorem p_eq_nil {xs : List Val} {h : Heap} : evP .eq [.tup xs, .tup []] h = .ok (.bool xs.isEmpty) h := by
  have e : eqv (.tup xs) (.tup []) = xs.isEmpty := by cases xs <;> rfl
  show optB (if (Val.tup xs).flat && (Val.tup []).flat && decide ((Val.tup xs).deep ≤ 64) && decide ((Val.tup []).deep ≤ 64) then some (eqv (.tup xs) (.tup [])) else if true = true then some (eqv (.tup xs) (.tup [])) else none) h = _
  rw [e]
  split <;> rfl
theorem p_ne_nil {xs : List Val} {h : Heap} : evP .ne [.tup xs, .tup []] h = .ok (.bool (!xs.isEmpty)) h := by
  have e : eqv (.tup xs) (.tup []) = xs.isEmpty := by cases xs <;> rfl
  show optB ((if (Val.tup xs).flat && (Val.tup []).flat && decide ((Val.tup xs).deep ≤ 64) && decide ((Val.tup []).deep ≤ 64) then some (eqv (.tup xs) (.tup [])) else if true = true then some (eqv (.tup xs) (.tup [])) else none).map (!·)) h = _
  rw [e]
  split <;> rfl
end M
namespace M
open PySem
local macro_rules | `(tactic| sizeOf_list_dec) => `(tactic| first | omega | (simp only [SL_val, List.length_map, List.length_append, List.length_cons, List.length_nil, rangeL_len, List.length_replicate, List.length_reverse]; omega) | (simp only [SL_val, List.length_map, List.length_append, List.length_cons, List.length_nil, rangeL_len, List.length_replicate, List.length_reverse]; done) | rfl)
local macro_rules | `(tactic| decreasing_trivial) => `(tactic| try simp (disch := sizeOf_list_dec) only [wp_bind, wp_ok, bind_ok, e_lit, e_var, e_prim, e_and, e_or, e_not, e_ite, e_chain, e_call, e_comp, e_frz, e_meth, es_nil, es_cons, c_nil, c_cons, i_val, i_range, i_enum, i_zip, s_asg, s_par, s_asg2, setsTg, s_aug, s_expr, s_ite, s_wh, s_for, s_ret, s_brk, t_ev, st_nil, st_cons, st_name, st_tup, st_ix,
  List.getElem?_cons_zero, List.getElem?_cons_succ, List.set_cons_zero, List.set_cons_succ, List.map_cons, List.map_nil, List.cons_append, List.nil_append, List.append_nil, List.replicate_succ, List.replicate_zero, selV, Option.map_some,
  p_add_int, p_add_str, p_add_tup, p_add_list, p_sub, p_neg, p_mul_int, p_fdiv, p_mod, p_pow6, p_eq_int, p_ne_int, p_eq_str, p_ne_str, p_lt, p_gt, p_le, p_ge, p_isNone, p_isNotNone, p_isTrue, p_isFalse, p_isNotTrue, p_isNotFalse, p_mem_sign, p_notmem_sign, p_ix_str, p_ix_list, p_ix_tup, optV_some, p_sl11, p_sl10, p_sl01, p_sl00, sl_str, sl_list, sl_tup, p_rev_str, p_rev_list, p_rev_tup, p_tup, p_list, p_len_str, p_len_list, p_len_tup, p_min2, p_max2, p_int_bool, p_int_int, p_bool, p_str_str, p_ord, p_listOf_list, p_listOf_tup, p_tupOf_list, p_tupOf_tup, truth_bool, truth_int, truth_str, truth_list, truth_tup, if_tt, if_ff, if_true, if_false, it_list, it_tup, it_str,
  rangeL0_at, at_0, at_1, at_2, at_3, decide_eq_true, decide_eq_false, beq_self_eq_true, Bool.not_true, Bool.not_false, Bool.false_eq_true, Bool.or_true, Bool.or_false, Bool.true_or, Bool.false_or, Bool.and_true, Bool.and_false, Bool.true_and, Bool.false_and, atI_ints, List.length_map, okList_ok, okTup_ok, okList_mut, SL_val, List.length_cons, List.length_nil, Nat.reduceAdd, Int.reduceToNat, Int.reducePow, Nat.reduceLeDiff, Nat.zero_add, killL, List.foldl_cons, List.foldl_nil, setTg])
local macro_rules | `(tactic| get_elem_tactic_trivial) => `(tactic| exact pr_ret rfl)
local macro_rules | `(tactic| array_mem_dec) => `(tactic| (refine (draw_at rfl (by omega) (by omega) (by assumption)).mono ?_; rintro _ _ ⟨⟨_, er, _, _⟩, _⟩; subst er; decreasing_trivial))
local macro_rules | `(tactic| array_get_dec) => `(tactic| decreasing_trivial; repeat (first | (refine wp_one ?_; decreasing_trivial) | (refine wp_seq ?_; decreasing_trivial) | array_mem_dec))
local macro_rules | `(tactic| clean_wf) => `(tactic| repeat (first | exact alln | refine allc (intIn (by omega) (by omega)) ?_))
local macro_rules | `(tactic| exists $ts,*) => `(tactic| (simp (disch := sizeOf_list_dec) only [$[$ts:term],*]; array_get_dec))
def b0_2 : List MS := [.asg [.name 13] (.call 11 [(.var 1), (.var 7)] [] [.inl 0, .inl 1]), .expr (.meth .append (.var 8) [(.ite (.var 2) (.call 11 [(.var 1), (.var 13)] [] [.inl 0, .inl 1]) (.var 13))])]
def b0_3 : List MS := [.ite (.not (.call 18 [(.var 10), (.var 11), (.var 12), (.var 7)] [] [.inl 0, .inl 1, .inl 2, .inl 3])) [.ret (.lit (.bool false))] []]
def b0_1 : List MS := [.asg [.tup [4, 5]] (.call 3 [(.var 1), (.lit (.int 11))] [] [.inl 0, .inl 1]), .asg [.name 6] (.call 4 [(.var 1)] [] [.inl 0]), .asg [.name 7] (.call 5 [(.var 4), (.var 5)] [(.prim .ix [(.var 6), (.lit (.int 0))]), (.prim .ix [(.var 6), (.lit (.int 1))]), (.prim .ix [(.var 6), (.lit (.int 2))])] [.inl 0, .inl 1, .inl 2, .inl 3, .inl 4]), .asg [.name 8] (.prim (.list true) [(.var 7), (.lit .none), (.lit (.bool true)), (.lit (.int 0)), (.lit (.str [])), (.prim .tup []), (.prim (.list false) []), (.lit (.dict [] [])), (.prim .tup [(.var 7)]), (.prim .add [(.var 7), (.prim .tup [(.prim .tup [])])]), (.prim (.listOf false) [(.var 7)])]), .asg [.name 8] (.prim .addm [(.var 8), (.prim (.list false) [(.prim .tup [(.prim .tup []), (.prim .tup [])]), (.prim .tup [(.prim .tup []), (.prim .tup [(.lit (.int 0))])]), (.prim .tup [(.lit (.int 0)), (.lit (.int 0))]), (.prim .tup [(.prim .tup []), (.prim .tup [(.lit (.int 0)), (.lit (.int 0))])])])]), .for (.name 9) (.range [(.lit (.int 10))]) b0_2, .ite (.prim .ne [(.comp false [13] (.name 13) (.val (.var 8)) [(.not (.call 18 [(.var 4), (.var 5), (.var 6), (.var 13)] [] [.inl 0, .inl 1, .inl 2, .inl 3]))] (.var 13)), (.prim (.list false) [])]) [.ret (.lit (.bool false))] [], .for (.tup [10, 11, 12]) (.val (.call 10 [(.var 1), (.var 4), (.var 5), (.var 6)] [] [.inl 0, .inl 1, .inl 2, .inl 3])) b0_3, .ite (.prim .isNotTrue [(.call 13 [(.var 4), (.var 5), (.var 7)] [(.prim .ix [(.var 6), (.lit (.int 0))]), (.prim .ix [(.var 6), (.lit (.int 1))]), (.prim .ix [(.var 6), (.lit (.int 2))])] [.inl 0, .inl 1, .inl 2, .inl 3, .inl 4, .inl 5])]) [.ret (.lit (.bool false))] []]
/-- law _law_script _law_deck_here _law_twice _law_turn _law_lengths _law_weights _law_frame_here _law_told _law_things _law_k _law_some _law_more _law_other_here _law_thing -/
def b0 : List MS := [.asg [.name 1] (.call 1 [(.var 0)] [] [.inl 0]), .asg [.name 2] (.prim .eq [(.call 2 [(.var 1), (.lit (.int 3))] [] [.inl 0, .inl 1]), (.lit (.int 1))]), .for (.name 3) (.range [(.lit (.int 2))]) b0_1, .ret (.lit (.bool true))]
/-- _law_deck _law_script _law_cell -/
def b1 : List MS := bDeck
/-- _law_draw _law_deck_here _law_most _law_cell _law_number -/
def b2 : List MS := bDraw
/-- _law_words_drawn _law_deck_here _law_most _law_many _law_way _law_lengths _law_weights _law_k -/
def b3 : List MS := [.asg [.name 2] (.prim .add [(.lit (.int 1)), (.call 2 [(.var 0), (.var 1)] [] [.inl 0, .inl 1])]), .asg [.name 3] (.call 2 [(.var 0), (.lit (.int 4))] [] [.inl 0, .inl 1]), .asg [.name 4] (.comp true [6] (.name 6) (.range [(.var 2)]) [] (.prim .add [(.lit (.int 1)), (.call 2 [(.var 0), (.prim .ix [(.prim (.list false) [(.lit (.int 8)), (.lit (.int 1)), (.lit (.int 3)), (.lit (.int 12))]), (.var 3)])] [] [.inl 0, .inl 1])])), .asg [.name 5] (.comp false [6] (.name 6) (.range [(.prim .sub [(.var 2), (.lit (.int 1))])]) [] (.prim .add [(.lit (.int 1)), (.call 2 [(.var 0), (.prim .ix [(.prim (.list false) [(.lit (.int 4)), (.lit (.int 1)), (.lit (.int 50)), (.lit (.int 2))]), (.var 3)])] [] [.inl 0, .inl 1])])), .ite (.prim .eq [(.var 3), (.lit (.int 3))]) [.asg [.ix (.var 4) (.call 2 [(.var 0), (.var 2)] [] [.inl 0, .inl 1])] (.prim .add [(.lit (.int 1)), (.call 2 [(.var 0), (.lit (.int 250))] [] [.inl 0, .inl 1])])] [], .ret (.prim .tup [(.prim .tupOf [(.var 4)]), (.prim .tupOf [(.var 5)])])]
/-- _law_frame _law_deck_here _law_wide -/
def b4 : List MS := B_law_frame 2
/-- least lengths weights first further width sums frame costs many breaks start stop -/
def b5 : List MS := B_least 6 7 8 9
/-- costs_behind sums weights frame many costs start some stop -/
def b6 : List MS := B_costs_behind 7
/-- line_cost sums weights frame start stop first further wide column signs cost -/
def b7 : List MS := B_line_cost
/-- sums_of lengths found length -/
def b8 : List MS := B_sums_of
/-- worths_ahead sums weights frame worths stop start -/
def b9 : List MS := B_worths_ahead 7
def b10_2 : List MS := [.asg [.name 10] (.comp false [11, 12] (.tup [11, 12]) (.enum (.var 3)) [] (.prim .min2 [(.lit (.int 200)), (.prim .max2 [(.prim .int [(.prim .eq [(.var 11), (.lit (.int 2))])]), (.prim .add [(.var 12), (.prim .mul [(.var 9), (.prim .int [(.prim .eq [(.var 11), (.var 8)])])])])])])), .expr (.meth .append (.var 7) [(.prim .tup [(.var 1), (.var 2), (.prim .tupOf [(.var 10)])])])]
def b10_1 : List MS := [.for (.name 9) (.val (.prim .tup [(.lit (.int 1)), (.prim .neg [(.lit (.int 1))])])) b10_2]
/-- _law_others _law_deck_here _law_lengths _law_weights _law_frame_here _law_at _law_longer _law_shorter _law_found _law_k _law_by _law_some _law_j _law_one -/
def b10 : List MS := [.asg [.name 4] (.call 2 [(.var 0), (.prim .len [(.var 1)])] [] [.inl 0, .inl 1]), .asg [.name 5] (.prim .add [(.prim .add [(.prim (.sl false true) [(.var 1), (.var 4)]), (.prim .tup [(.prim .add [(.prim .ix [(.var 1), (.var 4)]), (.lit (.int 1))])])]), (.prim (.sl true false) [(.var 1), (.prim .add [(.var 4), (.lit (.int 1))])])]), .asg [.name 6] (.prim .add [(.prim .add [(.prim (.sl false true) [(.var 1), (.var 4)]), (.prim .tup [(.prim .max2 [(.lit (.int 1)), (.prim .sub [(.prim .ix [(.var 1), (.var 4)]), (.lit (.int 1))])])])]), (.prim (.sl true false) [(.var 1), (.prim .add [(.var 4), (.lit (.int 1))])])]), .asg [.name 7] (.prim (.list true) [(.prim .tup [(.var 5), (.var 2), (.var 3)]), (.prim .tup [(.var 6), (.var 2), (.var 3)]), (.prim .tup [(.prim (.rev false) [(.var 1)]), (.prim (.rev false) [(.var 2)]), (.var 3)])]), .for (.name 8) (.range [(.lit (.int 3))]) b10_1, .ite (.prim .ne [(.var 2), (.prim .tup [])]) [.asg [.name 4] (.call 2 [(.var 0), (.prim .len [(.var 2)])] [] [.inl 0, .inl 1]), .expr (.meth .append (.var 7) [(.prim .tup [(.var 1), (.prim .add [(.prim .add [(.prim (.sl false true) [(.var 2), (.var 4)]), (.prim .tup [(.prim .add [(.prim .ix [(.var 2), (.var 4)]), (.lit (.int 1))])])]), (.prim (.sl true false) [(.var 2), (.prim .add [(.var 4), (.lit (.int 1))])])]), (.var 3)])]), .expr (.meth .append (.var 7) [(.prim .tup [(.prim (.sl false true) [(.var 1), (.prim .neg [(.lit (.int 1))])]), (.prim (.sl false true) [(.var 2), (.prim .neg [(.lit (.int 1))])]), (.var 3)])])] [], .ret (.prim .add [(.var 7), (.prim (.list false) [(.prim .tup [(.prim .add [(.var 1), (.prim .tup [(.lit (.int 1))])]), (.prim .add [(.var 2), (.prim .tup [(.lit (.int 1))])]), (.var 3)])])])]
/-- _law_spoilt _law_deck_here _law_thing _law_at -/
def b11 : List MS := [.ite (.or (.not (.prim (.isi [3]) [(.var 1)])) (.or (.prim .eq [(.var 1), (.prim .tup [])]) (.prim .eq [(.call 2 [(.var 0), (.lit (.int 6))] [] [.inl 0, .inl 1]), (.lit (.int 0))]))) [.ret (.call 12 [(.var 0), (.var 1)] [] [.inl 0, .inl 1])] [], .asg [.name 2] (.call 2 [(.var 0), (.prim .len [(.var 1)])] [] [.inl 0, .inl 1]), .ret (.prim .add [(.prim .add [(.prim (.sl false true) [(.var 1), (.var 2)]), (.prim .tup [(.call 11 [(.var 0), (.prim .ix [(.var 1), (.var 2)])] [] [.inl 0, .inl 1])])]), (.prim (.sl true false) [(.var 1), (.prim .add [(.var 2), (.lit (.int 1))])])])]
/-- _law_other _law_deck_here _law_thing _law_way _law_at _law_some _law_odd -/
def b12 : List MS := [.asg [.name 2] (.call 2 [(.var 0), (.lit (.int 8))] [] [.inl 0, .inl 1]), .ite (.prim .eq [(.var 2), (.lit (.int 0))]) [.asg [.name 5] (.prim (.list false) [(.lit .none), (.lit (.bool true)), (.lit (.bool false)), (.prim .tup []), (.prim (.list false) []), (.lit (.dict [] [])), (.lit (.str [])), (.lit (.str [48])), (.lit (.int 0)), (.lit (.int 1)), (.prim .neg [(.lit (.int 1))]), (.prim .pow [(.lit (.int 10)), (.lit (.int 39))]), (.prim .tup [(.lit (.int 0))]), (.prim .tup [(.prim .tup []), (.prim .tup [(.lit (.int 0))])]), (.prim (.dict1 false) [(.lit (.int 0)), (.var 1)]), (.prim (.list false) [(.var 1)])]), .ret (.prim .ix [(.var 5), (.call 2 [(.var 0), (.lit (.int 16))] [] [.inl 0, .inl 1])])] [], .ite (.prim (.isi [1]) [(.var 1)]) [.ret (.prim .ix [(.prim (.list false) [(.prim .add [(.var 1), (.lit (.int 1))]), (.prim .sub [(.var 1), (.lit (.int 1))]), (.prim .sub [(.lit (.int 0)), (.var 1)]), (.prim .eq [(.var 1), (.lit (.int 1))]), (.prim .str [(.var 1)]), (.prim .add [(.var 1), (.lit (.int 1000))]), (.prim .tup [(.var 1)])]), (.prim .sub [(.var 2), (.lit (.int 1))])])] [], .ite (.or (.not (.prim (.isi [3]) [(.var 1)])) (.prim .eq [(.var 1), (.prim .tup [])])) [.ret (.prim .ix [(.prim (.list false) [(.prim .tup [(.lit (.int 0))]), (.prim .tup [(.lit (.int 0)), (.lit (.int 1))]), (.prim (.list false) []), (.lit .none), (.prim .tup [(.var 1)]), (.prim .tup [(.lit (.bool false))]), (.prim .tup [(.lit (.int 1))])]), (.prim .sub [(.var 2), (.lit (.int 1))])])] [], .asg [.name 3] (.call 2 [(.var 0), (.prim .len [(.var 1)])] [] [.inl 0, .inl 1]), .asg [.name 4] (.prim (.list false) [(.prim .add [(.prim (.sl false true) [(.var 1), (.var 3)]), (.prim (.sl true false) [(.var 1), (.prim .add [(.var 3), (.lit (.int 1))])])]), (.prim .add [(.prim (.sl false true) [(.var 1), (.prim .add [(.var 3), (.lit (.int 1))])]), (.prim (.sl true false) [(.var 1), (.var 3)])]), (.prim (.rev false) [(.var 1)]), (.prim (.listOf false) [(.var 1)]), (.prim .ix [(.var 1), (.var 3)])]), .ret (.prim .ix [(.prim .add [(.var 4), (.prim (.list false) [(.prim .add [(.prim (.sl true false) [(.var 1), (.var 3)]), (.prim (.sl false true) [(.var 1), (.var 3)])]), (.prim .add [(.prim .add [(.prim (.sl false true) [(.var 1), (.var 3)]), (.prim (.rev false) [(.prim (.sl true true) [(.var 1), (.var 3), (.prim .add [(.var 3), (.lit (.int 2))])])])]), (.prim (.sl true false) [(.var 1), (.prim .add [(.var 3), (.lit (.int 2))])])])])]), (.prim .sub [(.var 2), (.lit (.int 1))])])]
/-- least_holds lengths weights thing first further width sums frame breaks worths -/
def b13 : List MS := B_least_holds 15 17 14 8
/-- breaks_cost sums weights frame breaks cost start stop number -/
def b14 : List MS := B_breaks_cost 7
/-- are_breaks many thing one other -/
def b15 : List MS := B_are_breaks 16
/-- are_numbers thing one -/
def b16 : List MS := B_are_numbers
/-- are_worths sums weights frame thing stop start -/
def b17 : List MS := B_are_worths 16 7
/-- _law_right _law_lengths _law_weights _law_frame_here _law_thing _law_kept _law_found -/
def b18 : List MS := [.asg [.name 4] (.prim .repr [(.prim .tup [(.var 0), (.var 1), (.var 3)])]), .asg [.name 5] (.call 13 [(.var 0), (.var 1), (.var 3)] [(.prim .ix [(.var 2), (.lit (.int 0))]), (.prim .ix [(.var 2), (.lit (.int 1))]), (.prim .ix [(.var 2), (.lit (.int 2))])] [.inl 0, .inl 1, .inl 2, .inl 3, .inl 4, .inl 5]), .ite (.prim .ne [(.prim .repr [(.var 5)]), (.prim .repr [(.call 19 [(.var 0), (.var 1), (.var 2), (.var 3)] [] [.inl 0, .inl 1, .inl 2, .inl 3])])]) [.ret (.lit (.bool false))] [], .ret (.prim .eq [(.prim .repr [(.prim .tup [(.var 0), (.var 1), (.var 3)])]), (.var 4)])]
/-- _law_is_least _law_lengths _law_weights _law_frame_here _law_thing _law_one -/
def b19 : List MS := B_law_is_least 22 20
/-- _law_cost _law_lengths _law_weights _law_frame_here _law_breaks _law_stops _law_starts _law_number _law_start _law_stop -/
def b20 : List MS := B_law_cost 21
/-- _law_line _law_lengths _law_weights _law_frame_here _law_start _law_stop _law_signs _law_cost_here -/
def b21 : List MS := B_law_line
/-- _law_are_worths _law_lengths _law_weights _law_frame_here _law_thing _law_stop _law_start _law_one -/
def b22 : List MS := B_law_are_worths 21
def G : Tab := fun i => match i with
  | 0 => some ⟨1, 14, false, b0⟩
  | 1 => some ⟨1, 2, true, b1⟩
  | 2 => some ⟨2, 4, false, b2⟩
  | 3 => some ⟨2, 7, false, b3⟩
  | 4 => some ⟨1, 2, false, b4⟩
  | 5 => some ⟨5, 12, false, b5⟩
  | 6 => some ⟨3, 8, false, b6⟩
  | 7 => some ⟨5, 11, false, b7⟩
  | 8 => some ⟨1, 3, false, b8⟩
  | 9 => some ⟨3, 6, false, b9⟩
  | 10 => some ⟨4, 13, false, b10⟩
  | 11 => some ⟨2, 3, false, b11⟩
  | 12 => some ⟨2, 6, false, b12⟩
  | 13 => some ⟨6, 10, false, b13⟩
  | 14 => some ⟨4, 8, false, b14⟩
  | 15 => some ⟨2, 4, false, b15⟩
  | 16 => some ⟨1, 2, false, b16⟩
  | 17 => some ⟨4, 6, false, b17⟩
  | 18 => some ⟨4, 6, false, b18⟩
  | 19 => some ⟨4, 5, false, b19⟩
  | 20 => some ⟨4, 9, false, b20⟩
  | 21 => some ⟨5, 7, false, b21⟩
  | 22 => some ⟨4, 7, false, b22⟩
  | _ => none
theorem eDraw : G 2 = some fDraw := rfl
structure Wrd (m : Nat) (ls W : List Int) : Prop where
  h1 : 1 ≤ ls.length
  h2 : ls.length ≤ m
  hW : ls.length = W.length + 1
  bl : ∀ x ∈ ls, 1 ≤ x ∧ x ≤ 1000000
  bw : ∀ x ∈ W, 1 ≤ x ∧ x ≤ 1000000
theorem words42 {k : Nat} {rest h : Heap} (hd : Dk rest h) : Wp (callN G (k + 2) 3 [.ref 1, .int 11] h) fun v h' => (∃ ls W, Wrd 11 ls W ∧ v = .tup [.tup (ls.map .int), .tup (W.map .int)]) ∧ Dk rest h' := by
  rw [call_succ rfl]
  refine run_draw hd rfl rfl (by
    rintro n v ⟨ls, W, w, rfl⟩
    refine flat_lt ?_
    show (Val.flats _ && (Val.flats _ && true)) = true
    rw [flats_ints, flats_ints]
    rfl) ?_
  show Wp (evB _ b3 [some (.ref 1), some (.int 11), none, none, none, none, none] h) _
  array_get_dec
  refine comp_draw (P := IntIn 1 1000000) (by assumption) (fun x hx h hh => ?_) fun l h' hl hP hd => ?_
  · array_get_dec
    refine wp_atI 1 12 (by omega) (by sizeOf_list_dec) (by clean_wf) fun m m1 m2 => ?_
    array_get_dec
    exact ⟨_, rfl, intIn (by omega) (by omega), by assumption⟩
  rw [rangeL_len] at hl
  obtain ⟨hl0, hd3⟩ := hd.new (.list l)
  array_get_dec
  rw [hl0]
  refine comp_draw (P := IntIn 1 1000000) hd3 (fun x hx h hh => ?_) fun l2 h2 hl2 hP2 hd4 => ?_
  · array_get_dec
    refine wp_atI 1 50 (by omega) (by sizeOf_list_dec) (by clean_wf) fun m m1 m2 => ?_
    array_get_dec
    exact ⟨_, rfl, intIn (by omega) (by omega), by assumption⟩
  rw [rangeL_len] at hl2
  array_get_dec
  rename_i w1 _ _ _ _ w0 _ _
  have fin : ∀ (l : List Val) (h2 : Heap), l.length = (1 + w1).toNat → (∀ x ∈ l, IntIn 1 1000000 x) → Dk (rest ++ [.list l]) h2 → Wp (evB (callN G (k + 1)) [.ret (.prim .tup [.prim .tupOf [.var 4], .prim .tupOf [.var 5]])]
      [some (Val.ref 1), some (Val.int 11), some (Val.int (1 + w1)), some (Val.int w0), some (Val.ref (rest.length + 2)), some (Val.list l2), none] h2)
      (PD (fun v => ∃ ls W, Wrd 11 ls W ∧ v = Val.tup [Val.tup (List.map Val.int ls), Val.tup (List.map Val.int W)]) rest) := fun l h2 hl hP hd => by
    have e := p_tupOf_mut hd.get (by omega)
    refine wp_one ?_
    decreasing_trivial
    rw [e]
    decreasing_trivial
    obtain ⟨ls, rfl, e1, e2⟩ := ints_list hP
    obtain ⟨W, rfl, e3, e4⟩ := ints_list hP2
    exact ⟨_, _, rfl, ⟨ls, W, ⟨by omega, by omega, by omega, e2, e4⟩, rfl⟩, hd⟩
  refine wp_if (fun _ => ?_) fun _ => ?_
  · array_get_dec
    rename_i h3 hd5 r r0 r1 h4 hd6 r' r0' r1'
    refine s_put hd6.get (by omega) (by omega) ?_
    exact fin _ _ (by rw [List.length_set]; exact hl) (all_set (intIn (by omega) (by omega)) _ hP) (hd6.set _)
  · rw [b_nil]
    exact fin l h2 hl hP hd4
def frmB (a b w : Int) : Prop := (0 ≤ a ∧ a ≤ 6) ∧ (0 ≤ b ∧ b ≤ 8) ∧ (1 ≤ w ∧ w ≤ 200)
theorem frame42 {k : Nat} {rest h : Heap} (hd : Dk rest h) : Wp (callN G (k + 2) 4 [.ref 1] h) fun v h' => (∃ a b w, frmB a b w ∧ v = .tup [.int a, .int b, .int w]) ∧ Dk rest h' := by
  rw [call_succ rfl]
  refine run_draw hd rfl rfl (by rintro n v ⟨a, b, w, _, rfl⟩; rfl) ?_
  show Wp (evB _ b4 [some (.ref 1), none] h) _
  array_get_dec
  refine wp_atI 1 200 (by omega) (by sizeOf_list_dec) (by clean_wf) fun m m1 m2 => ?_
  array_get_dec
  refine wp_atI 0 8 (by omega) (by sizeOf_list_dec) (by clean_wf) fun m' m1' m2' => ?_
  array_get_dec
  exact pd_ret ⟨_, _, _, ⟨by omega, by omega, by omega⟩, rfl⟩ (by assumption)
theorem Wrd.sml {m : Nat} {ls W : List Int} {a b w : Int} (s : Wrd m ls W) (f : frmB a b w) (hm : m ≤ 100) : Sml ls W a b w := by
  have := s.h2
  have := s.hW
  obtain ⟨f1, f2, f3⟩ := f
  exact ⟨s.h1, by omega, by omega, fun x hx => by have := s.bl x hx; omega, fun x hx => by have := s.bw x hx; omega, by omega, by omega, by omega⟩

/-! ### spoilt things -/

theorem cut_lo {A : Type} (xs : List A) {r : Int} (h0 : 0 ≤ r) (h1 : r ≤ (xs.length : Int)) : cut xs none (some r) = xs.take r.toNat := by
  unfold cut
  rw [sIx_none, sIx_nat h0, List.drop_zero]
  congr 1
  omega
theorem cut_hi {A : Type} (xs : List A) {r : Int} (h0 : 0 ≤ r) (h1 : r ≤ (xs.length : Int)) : cut xs (some r) none = xs.drop r.toNat := by
  unfold cut
  rw [sIx_none, sIx_nat h0, show min r.toNat xs.length = r.toNat by omega]
  exact List.take_of_length_le (by rw [List.length_drop]; omega)
theorem wts_split {xs : List Val} {r : Nat} (h : r < xs.length) : wts (cut xs none (some (r : Int))) + (wt xs[r] + 2) + wts (cut xs (some ((r : Int) + 1)) none) = wts xs := by
  rw [cut_lo _ (by omega) (by omega), cut_hi _ (by omega) (by omega), show ((r : Int)).toNat = r by omega, show ((r : Int) + 1).toNat = r + 1 by omega]
  have e := wts_td r xs
  rw [List.drop_eq_getElem_cons h] at e
  have e2 : wts (xs[r] :: xs.drop (r + 1)) = wt xs[r] + 2 + wts (xs.drop (r + 1)) := rfl
  omega
theorem len_hi {A : Type} (xs : List A) {i : Int} (h : 0 ≤ i) : (cut xs (some i) none).length = xs.length - i.toNat := by
  unfold cut
  rw [sIx_none, sIx_nat h, List.length_take, List.length_drop]; omega
theorem len_lo {A : Type} (xs : List A) {j : Int} (h : 0 ≤ j) : (cut xs none (some j)).length = min j.toNat xs.length := by
  unfold cut
  rw [sIx_none, sIx_nat h, List.length_take, List.length_drop]; omega
theorem len_mid {A : Type} (xs : List A) {i j : Int} (h : 0 ≤ i) (h' : 0 ≤ j) : (cut xs (some i) (some j)).length = min j.toNat xs.length - min i.toNat xs.length := by
  unfold cut
  rw [sIx_nat h, sIx_nat h', List.length_take, List.length_drop]; omega
theorem pow39 {h : Heap} : evP .pow [.int 10, .int 39] h = .ok (.int 1000000000000000000000000000000000000000) h := by
  rw [p_pow 10 39 h (by decide) (by decide) (by rfl), show (10 : Int) ^ (39 : Int).toNat = 1000000000000000000000000000000000000000 by decide +kernel]
def nI : Val → Int
  | .int i => i
  | .bool x => bI x
  | _ => 0
theorem ints_bools {v : Val} (h : Heap) (q : isI v = true ∨ isB v = true) (hf : (nI v).natAbs < 2 ^ 1000) : evP .add [v, .int 1] h = .ok (.int (nI v + 1)) h ∧ evP .sub [v, .int 1] h = .ok (.int (nI v - 1)) h ∧ evP .sub [.int 0, v] h = .ok (.int (0 - nI v)) h ∧
    (∃ x, evP .eq [v, .int 1] h = .ok (.bool x) h) ∧ (∃ s, evP .str [v] h = .ok (.str s) h ∧ (s.all fun c => decide (c < 128)) = true ∧ s.length ≤ 1001) ∧ evP .add [v, .int 1000] h = .ok (.int (nI v + 1000)) h := by
  cases v with
  | int i =>
    have hl := int_low (i := i) hf
    have ha : asc ((toString i : String) : Str).cps.toList = true := low_asc hl (by decide)
    refine ⟨rfl, rfl, rfl, ⟨_, rfl⟩, ⟨_, p_str_int h hf, ?_, ?_⟩, rfl⟩
    · exact (Bool.and_eq_true_iff.mp ha).1
    · have := hl.1
      simpa [Str.length] using this
  | bool x =>
    refine ⟨rfl, rfl, rfl, ⟨_, rfl⟩, ⟨_, rfl, ?_, ?_⟩, rfl⟩
    · cases x <;> rfl
    · cases x <;> decide
  | _ => rcases q with q | q <;> cases q
theorem other42 {k b m c d : Nat} {rest h : Heap} {v : Val} (hd : Dk rest h) (t : Th b m c d v) (hm : 2 ≤ m) (hm2 : m ≤ 1000) (hb : 1000000000000000000000000000000000000000 ≤ b) (hb2 : b + 1000 < 2 ^ 1000) :
    Wp (callN G (k + 2) 12 [.ref 1, v] h) fun w h' => Th (b + 1000) (m + 1) (3 * c + 12000) (d + 2) w ∧ Dk rest h' := by
  have SLv : SL = 16777216 := rfl
  have hk := thV_mono (Nat.le_add_right b 1000) (Nat.le_add_right m 1) t.k
  have hl := t.l
  have hdp := t.d
  rw [call_succ rfl]
  refine run_draw hd rfl rfl (fun n v t => thV_lt t.k) ?_
  show Wp (evB _ b12 [some (.ref 1), some v, none, none, none, none] h) _
  have oa : okA v = true := thV_okA (by omega) t.k
  array_get_dec
  refine wp_if (fun _ => ?_) fun q0 => ?_
  · refine wp_seq ?_
    decreasing_trivial
    rw [pow39]
    decreasing_trivial
    rw [p_dict1]
    array_get_dec
    refine wp_at (P := Th (b + 1000) (m + 1) (3 * c + 12000) (d + 2)) (by omega) (by sizeOf_list_dec) (by repeat (first | exact alln | refine allc (by first | assumption | exact ⟨by first | rfl | exact hk | (simp [thV, thVs, hk] <;> omega), by simp only [wt, wts, List.length_cons, List.length_nil] <;> omega, by simp only [Val.deep, Val.deeps] <;> omega⟩) ?_)) fun y hy => ?_
    exact pd_ret hy (by assumption)
  · rw [b_nil]
    rename_i h1 hd1 w w0 w1
    have w2 : 1 ≤ w := by have := ne_of_beq_false q0; omega
    array_get_dec
    rw [p_isi1 oa]
    decreasing_trivial
    refine wp_if (fun q1 => ?_) fun q1 => ?_
    · have q2 : isI v = true ∨ isB v = true := by
        rcases Bool.or_eq_true_iff.mp q1 with q | q
        · first | exact .inl q | exact .inr q
        · first | exact .inr q | exact .inl q
      have hn : (nI v).natAbs ≤ b := by
        cases v with
        | int i => exact of_decide_eq_true t.k
        | bool x => cases x with
          | true => show (1 : Int).natAbs ≤ b; omega
          | false => exact Nat.zero_le _
        | _ => exact Nat.zero_le _
      obtain ⟨a1, a2, a3, ⟨x, a4⟩, ⟨s, a5, a6, a7⟩, a8⟩ := ints_bools h1 q2 (by omega)
      array_get_dec
      rw [a1, wp_ok, a2, wp_ok, a3, wp_ok, a4, wp_ok, a5, wp_ok, a8, wp_ok]
      array_get_dec
      have hs : Th (b + 1000) (m + 1) (3 * c + 12000) (d + 2) (.str s) := ⟨a6, by show 10 * s.length + 2 ≤ 3 * c + 12000; omega, Nat.zero_le _⟩
      have hi1 : Th (b + 1000) (m + 1) (3 * c + 12000) (d + 2) (.int (nI v + 1)) := th_int (by omega) (by omega)
      have hi2 : Th (b + 1000) (m + 1) (3 * c + 12000) (d + 2) (.int (nI v - 1)) := th_int (by omega) (by omega)
      have hi3 : Th (b + 1000) (m + 1) (3 * c + 12000) (d + 2) (.int (0 - nI v)) := th_int (by omega) (by omega)
      have hi4 : Th (b + 1000) (m + 1) (3 * c + 12000) (d + 2) (.int (nI v + 1000)) := th_int (by omega) (by omega)
      refine wp_at (P := Th (b + 1000) (m + 1) (3 * c + 12000) (d + 2)) (by omega) (by sizeOf_list_dec) (by repeat (first | exact alln | refine allc (by first | assumption | exact ⟨by first | rfl | exact hk | (simp [thV, thVs, hk] <;> omega), by simp only [wt, wts, List.length_cons, List.length_nil] <;> omega, by simp only [Val.deep, Val.deeps] <;> omega⟩) ?_)) fun y hy => ?_
      exact pd_ret hy (by assumption)
    · rw [b_nil]
      array_get_dec
      rw [p_isi3 oa]
      decreasing_trivial
      have odd : Wp (evB (callN G (k + 1)) [.ret (.prim .ix [(.prim (.list false) [(.prim .tup [(.lit (.int 0))]), (.prim .tup [(.lit (.int 0)), (.lit (.int 1))]), (.prim (.list false) []), (.lit .none), (.prim .tup [(.var 1)]), (.prim .tup [(.lit (.bool false))]), (.prim .tup [(.lit (.int 1))])]), (.prim .sub [(.var 2), (.lit (.int 1))])])] [some (.ref 1), some v, some (.int w), none, none, none] h1) (PD (Th (b + 1000) (m + 1) (3 * c + 12000) (d + 2)) rest) := by
        array_get_dec
        refine wp_at (P := Th (b + 1000) (m + 1) (3 * c + 12000) (d + 2)) (by omega) (by sizeOf_list_dec) (by repeat (first | exact alln | refine allc (by first | assumption | exact ⟨by first | rfl | exact hk | (simp [thV, thVs, hk] <;> omega), by simp only [wt, wts, List.length_cons, List.length_nil] <;> omega, by simp only [Val.deep, Val.deeps] <;> omega⟩) ?_)) fun y hy => ?_
        exact pd_ret hy (by assumption)
      cases htx : isT v with
      | false =>
        simp only [Bool.not_false, if_tt, if_true, wp_ok, truth_bool]
        refine odd.mono fun f h' q => ?_
        obtain ⟨y, l, rfl, q⟩ := q
        exact ⟨y, l, rfl, q⟩
      | true =>
        obtain ⟨xs, rfl⟩ : ∃ xs, v = .tup xs := by
          cases v <;> first | exact ⟨_, rfl⟩ | cases htx
        simp only [Bool.not_true, if_ff, if_false]
        rw [p_eq_nil]
        decreasing_trivial
        cases he : xs.isEmpty with
        | true =>
          simp only [if_tt, if_true]
          refine odd.mono fun f h' q => ?_
          obtain ⟨y, l, rfl, q⟩ := q
          exact ⟨y, l, rfl, q⟩
        | false =>
          simp only [if_ff, if_false, b_nil, wp_ok]
          have hx : 1 ≤ xs.length := by
            cases xs with
            | nil => cases he
            | cons _ _ => simp
          obtain ⟨i1, i2, i3⟩ := t.items
          array_get_dec
          rename_i h2 hd2 r r0 r1
          have l1 := len_lo xs r0
          have l2 := len_hi xs (i := r + 1) (by omega)
          have l3 := len_lo xs (j := r + 1) (by omega)
          have l4 := len_hi xs r0
          have l5 := len_mid xs (i := r) (j := r + 2) (by omega) (by omega)
          have l6 := len_hi xs (i := r + 2) (by omega)
          have kt : ∀ x ∈ xs, thV (b + 1000) (m + 1) x = true := fun x hx => thV_mono (by omega) (by omega) (i3 x hx).1
          have T : ∀ ys : List Val, (∀ x ∈ ys, x ∈ xs) → ys.length ≤ xs.length + 1 → wts ys ≤ 3 * wts xs → Th (b + 1000) (m + 1) (3 * c + 12000) (d + 2) (.tup ys) := fun ys h1 h2 h3 =>
            th_tup (fun x hx => kt x (h1 x hx)) (by omega) (by omega) (fun x hx => by have := (i3 x (h1 x hx)).2; omega) (by omega)
          have wc := fun lo hi => wts_cut xs lo hi
          have A : ∀ (a1 b1 a2 b2 : Option Int), (cut xs a1 b1).length + (cut xs a2 b2).length ≤ xs.length + 1 → Th (b + 1000) (m + 1) (3 * c + 12000) (d + 2) (.tup (cut xs a1 b1 ++ cut xs a2 b2)) := fun a1 b1 a2 b2 hl => by
            refine T _ (fun x hx => ?_) (by rw [List.length_append]; exact hl) ?_
            · rcases List.mem_append.mp hx with hx | hx <;> exact mem_cut hx
            · rw [wts_app]
              have := wc a1 b1
              have := wc a2 b2
              omega
          obtain ⟨y, hy, ey⟩ := atI_mem (xs := xs) r0 r1
          have hA1 := A none (some r) (some (r + 1)) none (by omega)
          have hA2 := A none (some (r + 1)) (some r) none (by omega)
          have hA3 : Th (b + 1000) (m + 1) (3 * c + 12000) (d + 2) (.tup xs.reverse) := T _ (fun x hx => List.mem_reverse.mp hx) (by rw [List.length_reverse]; omega) (by rw [wts_rev]; omega)
          have hA4 : Th (b + 1000) (m + 1) (3 * c + 12000) (d + 2) (.list xs) := th_list kt (by omega) (fun x hx => by have := (i3 x hx).2; omega) (by omega)
          have hA5 : Th (b + 1000) (m + 1) (3 * c + 12000) (d + 2) y := ⟨kt y hy, by have := wts_mem hy; omega, by have := (i3 y hy).2; omega⟩
          have hA6 := A (some r) none none (some r) (by omega)
          have hA7 : Th (b + 1000) (m + 1) (3 * c + 12000) (d + 2) (.tup (cut xs none (some r) ++ (cut xs (some r) (some (r + 2))).reverse ++ cut xs (some (r + 2)) none)) := by
            refine T _ (fun x hx => ?_) (by rw [List.length_append, List.length_append, List.length_reverse]; omega) ?_
            · rcases List.mem_append.mp hx with hx | hx
              · rcases List.mem_append.mp hx with hx | hx
                · exact mem_cut hx
                · exact mem_cut (List.mem_reverse.mp hx)
              · exact mem_cut hx
            · rw [wts_app, wts_app, wts_rev]
              have := wc none (some r)
              have := wc (some r) (some (r + 2))
              have := wc (some (r + 2)) none
              omega
          have sp : ∀ ys : List Val, ys.length ≤ 2000 → ∀ h : Heap, okTup ys h = .ok (.tup ys) h := fun ys hl h => okTup_ok _ _ (by omega)
          rw [sp _ (by rw [List.length_append]; omega), wp_ok, sp _ (by rw [List.length_append]; omega), wp_ok, ey]
          array_get_dec
          exact wp_at (P := Th (b + 1000) (m + 1) (3 * c + 12000) (d + 2)) (by omega) (by sizeOf_list_dec) (allc hA1 (allc hA2 (allc hA3 (allc hA4 (allc hA5 (allc hA6 (allc hA7 alln))))))) fun y hy => pd_ret hy (by assumption)
/-- one thing in it, or all of it, put otherwise -/
theorem spoilt42 : ∀ (n : Nat) {k b m c d : Nat} {rest h : Heap} {v : Val}, Dk rest h → Th b m c d v → 2 ≤ m → m ≤ 1000 → 1000000000000000000000000000000000000000 ≤ b → b + 1000 < 2 ^ 1000 → v.deep ≤ n →
    Wp (callN G (k + n + 3) 11 [.ref 1, v] h) fun w h' => Th (b + 1000) (m + 1) (3 * c + 12000) (d + 2) w ∧ Dk rest h' := by
  intro n
  have SLv : SL = 16777216 := rfl
  induction n with
  | zero =>
    intro k b m c d rest h v hd t hm hm2 hb hb2 hn
    rw [call_succ rfl]
    refine run_draw hd rfl rfl (fun n v t => thV_lt t.k) ?_
    show Wp (evB _ b11 [some (.ref 1), some v, none] h) _
    have oa : okA v = true := thV_okA (by omega) t.k
    refine wp_seq ?_
    decreasing_trivial
    rw [p_isi3 oa]
    decreasing_trivial
    have htx : isT v = false := by
      cases v <;> first | rfl | (exfalso; exact absurd hn (Nat.not_succ_le_zero _))
    rw [htx]
    simp only [Bool.not_false, if_tt, if_true, wp_ok, truth_bool]
    refine wp_one ?_
    decreasing_trivial
    exact (other42 (k := k) hd t hm hm2 hb hb2).mono fun w h' q => ⟨w, [], rfl, q.1, by rw [List.append_nil]; exact q.2⟩
  | succ n ih =>
    intro k b m c d rest h v hd t hm hm2 hb hb2 hn
    rw [show k + (n + 1) + 3 = (k + n + 3) + 1 by omega, call_succ rfl]
    refine run_draw hd rfl rfl (fun n v t => thV_lt t.k) ?_
    show Wp (evB _ b11 [some (.ref 1), some v, none] h) _
    have oa : okA v = true := thV_okA (by omega) t.k
    have fin : ∀ h1, Dk rest h1 → Wp (evB (callN G (k + n + 3)) [.ret (.call 12 [(.var 0), (.var 1)] [] [.inl 0, .inl 1])] [some (.ref 1), some v, none] h1) (PD (Th (b + 1000) (m + 1) (3 * c + 12000) (d + 2)) rest) := fun h1 hd1 => by
      refine wp_one ?_
      decreasing_trivial
      exact (other42 (k := k + n + 1) hd1 t hm hm2 hb hb2).mono fun w h' q => ⟨w, [], rfl, q.1, by rw [List.append_nil]; exact q.2⟩
    have fin2 : ∀ h1, Dk rest h1 → Wp (evB (callN G (k + n + 3)) [.ret (.call 12 [(.var 0), (.var 1)] [] [.inl 0, .inl 1])] [some (.ref 1), some v, none] h1) (fun f h => match f with
        | .nx ls => Wp (evB (callN G (k + n + 3)) [.asg [.name 2] (.call 2 [(.var 0), (.prim .len [(.var 1)])] [] [.inl 0, .inl 1]), .ret (.prim .add [(.prim .add [(.prim (.sl false true) [(.var 1), (.var 2)]), (.prim .tup [(.call 11 [(.var 0), (.prim .ix [(.var 1), (.var 2)])] [] [.inl 0, .inl 1])])]), (.prim (.sl true false) [(.var 1), (.prim .add [(.var 2), (.lit (.int 1))])])])] ls h) (PD (Th (b + 1000) (m + 1) (3 * c + 12000) (d + 2)) rest)
        | f => PD (Th (b + 1000) (m + 1) (3 * c + 12000) (d + 2)) rest f h) := fun h1 hd1 => (fin h1 hd1).mono fun f h' q => by
      obtain ⟨y, l, rfl, q⟩ := q
      exact ⟨y, l, rfl, q⟩
    refine wp_seq ?_
    decreasing_trivial
    rw [p_isi3 oa]
    decreasing_trivial
    cases htx : isT v with
    | false =>
      simp only [Bool.not_false, if_tt, if_true, wp_ok, truth_bool]
      exact fin2 h hd
    | true =>
      obtain ⟨xs, rfl⟩ : ∃ xs, v = .tup xs := by
        cases v <;> first | exact ⟨_, rfl⟩ | cases htx
      simp only [Bool.not_true, if_ff, if_false]
      rw [p_eq_nil]
      decreasing_trivial
      cases he : xs.isEmpty with
      | true =>
        simp only [if_tt, if_true]
        decreasing_trivial
        exact fin2 h hd
      | false =>
        simp only [if_ff, if_false]
        array_get_dec
        refine wp_if (fun _ => ?_) fun _ => ?_
        · exact fin2 _ (by assumption)
        · rw [b_nil]
          have hx : 1 ≤ xs.length := by
            cases xs with
            | nil => cases he
            | cons _ _ => simp
          obtain ⟨i1, i2, i3⟩ := t.items
          array_get_dec
          rename_i h2 hd2 r r0 r1
          obtain ⟨rn, rfl⟩ : ∃ rn : Nat, r = (rn : Int) := ⟨r.toNat, by omega⟩
          have hr : rn < xs.length := by omega
          rw [at_n (n := rn) (List.getElem?_eq_getElem hr)]
          decreasing_trivial
          have hy : xs[rn] ∈ xs := List.getElem_mem hr
          obtain ⟨y1, y2⟩ := i3 _ hy
          have dn : Val.deeps xs + 1 ≤ n + 1 := hn
          have ws := wts_split hr
          refine (ih hd2 (show Th b m (wt xs[rn]) (xs[rn]).deep xs[rn] from ⟨y1, Nat.le_refl _, Nat.le_refl _⟩) hm hm2 hb hb2 (by have := deeps_mem hy; omega)).mono fun w h3 ⟨tw, hd3⟩ => ?_
          have l1 := len_lo xs (j := (rn : Int)) (by omega)
          have l2 := len_hi xs (i := (rn : Int) + 1) (by omega)
          have sp : ∀ ys : List Val, ys.length ≤ 2000 → ∀ h : Heap, okTup ys h = .ok (.tup ys) h := fun ys hl h => okTup_ok _ _ (by omega)
          rw [sp (cut xs none (some (rn : Int)) ++ [w]) (by rw [List.length_append]; simp only [List.length_cons, List.length_nil]; omega)]
          decreasing_trivial
          have k1 := tw.k
          have k2 := tw.l
          have k3 := tw.d
          have mem : ∀ x ∈ cut xs none (some (rn : Int)) ++ [w] ++ cut xs (some ((rn : Int) + 1)) none, x ∈ xs ∨ x = w := fun x hx => by
            rcases List.mem_append.mp hx with hx | hx
            · rcases List.mem_append.mp hx with hx | hx
              · exact .inl (mem_cut hx)
              · exact .inr (List.mem_singleton.mp hx)
            · exact .inl (mem_cut hx)
          refine pd_ret (th_tup (fun x hx => ?_) ?_ ?_ (fun x hx => ?_) (by omega)) hd3
          · rcases mem x hx with hx | rfl
            · exact thV_mono (by omega) (by omega) (i3 x hx).1
            · exact k1
          · rw [List.length_append, List.length_append]; simp only [List.length_cons, List.length_nil]; omega
          · rw [wts_app, wts_app]
            have : wts [w] = wt w + 2 := rfl
            omega
          · rcases mem x hx with hx | rfl
            · have := (i3 x hx).2; omega
            · omega
/-! ### both answer alike -/
def OkI (n : Nat) (l : List Int) : Prop := l.length ≤ n ∧ ∀ x ∈ l, x.natAbs ≤ 1000000000000000000000000000000
theorem repr_bool {b : Bool} {h : Heap} : evP .repr [.bool b] h = .ok (.str (reprT (.bool b))) h := (gd_bool (b := b)).repr h (by decide) (by decide)
theorem right42 {b m c d : Nat} {h : Heap} {ls W : List Int} {x y z : Int} {v : Val} (h1 : 1 ≤ ls.length) (hW : ls.length ≤ W.length + 1) (hl : OkI 20 ls) (hw : OkI 20 W) (t : Th b m c d v) (hb : b < 2 ^ 1000) (hc : c ≤ 900000) (hm : m < 64) (hd : d ≤ 60) :
    callN G 40 18 [.tup (ls.map .int), .tup (W.map .int), .tup [.int x, .int y, .int z], v] h = .ok (.bool true) h := by
  have SLv : SL = 16777216 := rfl
  have oa : okA v = true := thV_okA hb t.k
  have lv := t.l
  have ho := fun h => holds_ok (G := G) (k := 36) (i := 13) (ib := 15) (iw := 17) (ic := 14) (is := 8) (ia := 16) (il := 7) (h := h) rfl rfl rfl rfl rfl rfl rfl (ls := ls) (W := W) (a := x) (b := y) (w := z) (v := v) h1 (by have := hl.1; omega) hW oa (by omega)
  have hi := fun h => lisl_ok (G := G) (k := 36) (i := 19) (iw := 22) (ic := 20) (il := 21) (h := h) rfl rfl rfl rfl (ls := ls) (W := W) (a := x) (b := y) (w := z) (v := v) h1 (by have := hl.1; omega) hW oa (by omega) (fun xs y e => by
    subst e
    have := (t.items.2.2 _ List.mem_cons_self).1
    have := of_decide_eq_true (Bool.and_eq_true_iff.mp this).1
    omega)
  have g1 := gd_ints 20 (fun x hx => hl.2 x hx) hl.1
  have g2 := gd_ints 20 (fun x hx => hw.2 x hx) hw.1
  have re : ∀ h, evP .repr [.tup [.tup (ls.map .int), .tup (W.map .int), v]] h = .ok (.str (reprT (.tup [.tup (ls.map .int), .tup (W.map .int), v]))) h := fun h => by
    refine p_repr h ?_ ?_ ?_ ?_
    · exact Bool.and_eq_true_iff.mpr ⟨g1.a, Bool.and_eq_true_iff.mpr ⟨g2.a, Bool.and_eq_true_iff.mpr ⟨oa, rfl⟩⟩⟩
    · exact Bool.and_eq_true_iff.mpr ⟨flat_dat g1.f, Bool.and_eq_true_iff.mpr ⟨flat_dat g2.f, Bool.and_eq_true_iff.mpr ⟨thV_dat t.k, rfl⟩⟩⟩
    · show max _ (max _ (max v.deep 0)) + 1 ≤ 64
      have := g1.d
      have := g2.d
      have := t.d
      omega
    · show wt _ + 2 + (wt _ + 2 + (wt v + 2 + 0)) + 3 ≤ SL
      have := g1.l
      have := g2.l
      omega
  rw [call_succ (k := 39) rfl]
  refine run_pure rfl rfl rfl ?_
  show Wp (evB _ b18 [some (.tup (ls.map .int)), some (.tup (W.map .int)), some (.tup [.int x, .int y, .int z]), some v, none, none] h) _
  refine wp_seq ?_
  decreasing_trivial
  exists re
  exists ho
  exists hi
  exists repr_bool
  rw [re, wp_ok, p_eq_str]
  decreasing_trivial
  exact pr_ret rfl
end M
namespace M
open PySem
local macro_rules | `(tactic| sizeOf_list_dec) => `(tactic| first | omega | (simp only [SL_val, List.length_map, List.length_append, List.length_cons, List.length_nil, rangeL_len, List.length_replicate, List.length_reverse]; omega) | (simp only [SL_val, List.length_map, List.length_append, List.length_cons, List.length_nil, rangeL_len, List.length_replicate, List.length_reverse]; done) | rfl)
local macro_rules | `(tactic| decreasing_trivial) => `(tactic| try simp (disch := sizeOf_list_dec) only [wp_bind, wp_ok, bind_ok, e_lit, e_var, e_prim, e_and, e_or, e_not, e_ite, e_chain, e_call, e_comp, e_frz, e_meth, es_nil, es_cons, c_nil, c_cons, i_val, i_range, i_enum, i_zip, s_asg, s_par, s_asg2, setsTg, s_aug, s_expr, s_ite, s_wh, s_for, s_ret, s_brk, t_ev, st_nil, st_cons, st_name, st_tup, st_ix,
  List.getElem?_cons_zero, List.getElem?_cons_succ, List.set_cons_zero, List.set_cons_succ, List.map_cons, List.map_nil, List.cons_append, List.nil_append, List.append_nil, List.replicate_succ, List.replicate_zero, selV, Option.map_some,
  p_add_int, p_add_str, p_add_tup, p_add_list, p_sub, p_neg, p_mul_int, p_fdiv, p_mod, p_pow6, p_eq_int, p_ne_int, p_eq_str, p_ne_str, p_lt, p_gt, p_le, p_ge, p_isNone, p_isNotNone, p_isTrue, p_isFalse, p_isNotTrue, p_isNotFalse, p_mem_sign, p_notmem_sign, p_ix_str, p_ix_list, p_ix_tup, optV_some, p_sl11, p_sl10, p_sl01, p_sl00, sl_str, sl_list, sl_tup, p_rev_str, p_rev_list, p_rev_tup, p_tup, p_list, p_len_str, p_len_list, p_len_tup, p_min2, p_max2, p_int_bool, p_int_int, p_bool, p_str_str, p_ord, p_listOf_list, p_listOf_tup, p_tupOf_list, p_tupOf_tup, truth_bool, truth_int, truth_str, truth_list, truth_tup, if_tt, if_ff, if_true, if_false, it_list, it_tup, it_str,
  rangeL0_at, at_0, at_1, at_2, at_3, decide_eq_true, decide_eq_false, beq_self_eq_true, Bool.not_true, Bool.not_false, Bool.false_eq_true, Bool.or_true, Bool.or_false, Bool.true_or, Bool.false_or, Bool.and_true, Bool.and_false, Bool.true_and, Bool.false_and, atI_ints, List.length_map, okList_ok, okTup_ok, okList_mut, SL_val, List.length_cons, List.length_nil, Nat.reduceAdd, Int.reduceToNat, Int.reducePow, Nat.reduceLeDiff, Nat.zero_add, killL, List.foldl_cons, List.foldl_nil, setTg])
local macro_rules | `(tactic| get_elem_tactic_trivial) => `(tactic| exact pr_ret rfl)
local macro_rules | `(tactic| array_mem_dec) => `(tactic| (refine (draw_at rfl (by omega) (by omega) (by assumption)).mono ?_; rintro _ _ ⟨⟨_, er, _, _⟩, _⟩; subst er; decreasing_trivial))
local macro_rules | `(tactic| array_get_dec) => `(tactic| decreasing_trivial; repeat (first | (refine wp_one ?_; decreasing_trivial) | (refine wp_seq ?_; decreasing_trivial) | array_mem_dec))
local macro_rules | `(tactic| clean_wf) => `(tactic| repeat (first | exact alln | refine allc (intIn (by omega) (by omega)) ?_))
local macro_rules | `(tactic| exists $ts,*) => `(tactic| (simp (disch := sizeOf_list_dec) only [$[$ts:term],*]; array_get_dec))
/-! ### other words, weights, frames -/
def Tri (x : Val) : Prop := ∃ (ls W : List Int) (a b w : Int), x = .tup [.tup (ls.map .int), .tup (W.map .int), .tup [.int a, .int b, .int w]] ∧ 1 ≤ ls.length ∧ ls.length ≤ W.length + 1 ∧ OkI 20 ls ∧ OkI 20 W
def OkB (n : Nat) (l : List Int) : Prop := l.length ≤ n ∧ ∀ x ∈ l, 0 ≤ x ∧ x ≤ 1000001
theorem OkB.i {n : Nat} {l : List Int} (h : OkB n l) (hn : n ≤ 20) : OkI 20 l := ⟨by have := h.1; omega, fun x hx => by have := h.2 x hx; omega⟩
theorem put42 {ls : List Int} {n : Nat} {r z : Int} (hl : OkB n ls) (h0 : 0 ≤ r) (h1 : r < (ls.length : Int)) (hz : 0 ≤ z ∧ z ≤ 1000001) :
    ∃ T, cut (ls.map Val.int) none (some r) ++ [.int z] ++ cut (ls.map Val.int) (some (r + 1)) none = T.map .int ∧ T.length = ls.length ∧ OkB n T := by
  refine ⟨ls.take r.toNat ++ [z] ++ ls.drop (r + 1).toNat, ?_, ?_, ?_, fun x hx => ?_⟩
  · rw [cut_lo _ h0 (by rw [List.length_map]; omega), cut_hi _ (by omega) (by rw [List.length_map]; omega)]
    simp only [List.map_append, List.map_take, List.map_drop, List.map_cons, List.map_nil]
  · rw [List.length_append, List.length_append, List.length_take, List.length_drop]
    simp only [List.length_cons, List.length_nil]
    omega
  · have := hl.1
    rw [List.length_append, List.length_append, List.length_take, List.length_drop]
    simp only [List.length_cons, List.length_nil]
    omega
  · rcases List.mem_append.mp hx with hx | hx
    · rcases List.mem_append.mp hx with hx | hx
      · exact hl.2 x (List.mem_of_mem_take hx)
      · rw [List.mem_singleton.mp hx]; exact hz
    · exact hl.2 x (List.mem_of_mem_drop hx)
theorem turns_cons0 (step : Val → Heap → Res (List Val)) (x : Val) (r : List Val) (h : Heap) : turns none step (x :: r) h = (step x h).bind fun a h => (turns none step r h).bind fun b h => .ok (a ++ b) h := rfl
theorem turns_nil0 (step : Val → Heap → Res (List Val)) (h : Heap) : turns none step [] h = .ok [] h := rfl
theorem oth_turn {k : Nat} {rest h : Heap} {ls W : List Int} {L : List Val} {a b w kk bb : Int} {x0 x4 x5 x6 x10 x11 x12 : Option Val} {m : Nat} (hd : Dk (rest ++ [.list L]) h) (hs : small bb = true) (h1 : 1 ≤ ls.length) (hW : ls.length ≤ W.length + 1) (hl : OkI 20 ls) (hw : OkI 20 W) (hL : ∀ x ∈ L, Tri x) (hm : L.length ≤ 1000) (em : m = rest.length + 2) :
    Wp (evB (callN G (k + 2)) b10_2 [x0, some (.tup (ls.map .int)), some (.tup (W.map .int)), some (.tup [.int a, .int b, .int w]), x4, x5, x6, some (.ref m), some (.int kk), some (.int bb), x10, x11, x12] h) fun f h' => ∃ L' x10, L'.length = L.length + 1 ∧ (∀ x ∈ L', Tri x) ∧ f = .nx [x0, some (.tup (ls.map .int)), some (.tup (W.map .int)), some (.tup [.int a, .int b, .int w]), x4, x5, x6, some (.ref m), some (.int kk), some (.int bb), x10, x11, x12] ∧ Dk (rest ++ [.list L']) h' := by
  subst em
  have SLv : SL = 16777216 := rfl
  have mb : ∀ (j : Int) (h : Heap), evP .mul [.int bb, .int j] h = .ok (.int (bb * j)) h := fun j h => p_mul_int h _ _ (by rw [hs]; rfl)
  refine wp_seq ?_
  decreasing_trivial
  simp only [isStr, enumL, wp_ok, turns_cons0, turns_nil0]
  decreasing_trivial
  simp only [mb]
  decreasing_trivial
  refine wp_one ?_
  decreasing_trivial
  simp only [recv_append hd.get, if_tt, if_true]
  decreasing_trivial
  rw [append_ref hd.get (by omega)]
  decreasing_trivial
  refine ⟨_, _, ?_, fun x hx => ?_, rfl, hd.set _⟩
  · rw [List.length_append]; rfl
  · rcases List.mem_append.mp hx with hx | hx
    · exact hL x hx
    · rw [List.mem_singleton.mp hx]
      exact ⟨ls, W, _, _, _, rfl, h1, hW, hl, hw⟩
theorem p_add_ref {n : Nat} {xs ys : List Val} {h : Heap} (e : h[n]? = some (.list xs)) (l : xs.length + ys.length ≤ 1000000) : evP .add [.ref n, .list ys] h = .ok (.list (xs ++ ys)) h := by
  have SLv : SL = 16777216 := rfl
  have e1 : dr h (.ref n) = some (.list xs) := by
    unfold dr
    simp only [e]
  have e2 : dr h (.list ys) = some (.list ys) := rfl
  show (match dr h (.ref n), dr h (.list ys) with
    | some (.list xs), some (.list ys) => okList false (xs ++ ys) h
    | _, _ => .stuck) = _
  rw [e1, e2]
  exact okList_ok _ _ (by rw [List.length_append]; omega)
theorem others42 {k : Nat} {rest h : Heap} {ls W : List Int} {a b w : Int} (hd : Dk rest h) (h1 : 1 ≤ ls.length) (hW : ls.length = W.length + 1) (hl : OkB 11 ls) (hw : OkB 11 W) (bl : ∀ x ∈ ls, 1 ≤ x ∧ x ≤ 1000000) (bw : ∀ x ∈ W, 1 ≤ x ∧ x ≤ 1000000) :
    Wp (callN G (k + 3) 10 [.ref 1, .tup (ls.map .int), .tup (W.map .int), .tup [.int a, .int b, .int w]] h) fun v h' => (∃ L, v = .list L ∧ (∀ x ∈ L, Tri x)) ∧ Dk rest h' := by
  have SLv : SL = 16777216 := rfl
  have l11 := hl.1
  rw [call_succ rfl]
  refine run_draw hd rfl rfl (by
    rintro n v ⟨L, rfl, hL⟩
    refine flat_lt (flats_of fun x hx => ?_)
    obtain ⟨ls, W, a, b, w, rfl, _⟩ := hL x hx
    show (Val.flats _ && (Val.flats _ && _)) = true
    rw [flats_ints, flats_ints]
    rfl) ?_
  show Wp (evB _ b10 [some (.ref 1), some (.tup (ls.map .int)), some (.tup (W.map .int)), some (.tup [.int a, .int b, .int w]), none, none, none, none, none, none, none, none, none] h) _
  array_get_dec
  rename_i h2 hd2 r r0 r1
  have gl : 1 ≤ ls.getD r.toNat 0 ∧ ls.getD r.toNat 0 ≤ 1000000 := bl _ (by
    rw [List.getD, List.getElem?_eq_getElem (by omega), Option.getD_some]
    exact List.getElem_mem _)
  have c1 := len_lo (ls.map Val.int) r0
  have c2 := len_hi (ls.map Val.int) (i := r + 1) (by omega)
  rw [List.length_map] at c1 c2
  rw [okTup_ok _ _ (by rw [List.length_append]; simp only [List.length_cons, List.length_nil]; omega)]
  array_get_dec
  obtain ⟨T5, e5, n5, b5⟩ := put42 (z := ls.getD r.toNat 0 + 1) hl r0 r1 (by omega)
  rw [e5]
  generalize hz6 : (if ls.getD r.toNat 0 - 1 > 1 then ls.getD r.toNat 0 - 1 else 1) = z6
  have b6' : 0 ≤ z6 ∧ z6 ≤ 1000001 := by
    rw [← hz6]
    split <;> omega
  obtain ⟨T6, e6, n6, b6⟩ := put42 (z := z6) hl r0 r1 b6'
  rw [e6]
  obtain ⟨e7, hd3⟩ := hd2.new (.list [.tup [.tup (T5.map .int), .tup (W.map .int), .tup [.int a, .int b, .int w]], .tup [.tup (T6.map .int), .tup (W.map .int), .tup [.int a, .int b, .int w]], .tup [.tup (ls.map Val.int).reverse, .tup (W.map Val.int).reverse, .tup [.int a, .int b, .int w]]])
  rw [e7]
  have oW : OkI 20 W := hw.i (by omega)
  have R3 : ∀ x ∈ [Val.tup [.tup (T5.map .int), .tup (W.map .int), .tup [.int a, .int b, .int w]], .tup [.tup (T6.map .int), .tup (W.map .int), .tup [.int a, .int b, .int w]], .tup [.tup (ls.map Val.int).reverse, .tup (W.map Val.int).reverse, .tup [.int a, .int b, .int w]]], Tri x := by
    refine allc ⟨T5, W, a, b, w, rfl, by omega, by omega, b5.i (by omega), oW⟩ (allc ⟨T6, W, a, b, w, rfl, by omega, by omega, b6.i (by omega), oW⟩ (allc ⟨ls.reverse, W.reverse, a, b, w, by rw [List.map_reverse, List.map_reverse], by rw [List.length_reverse]; omega, by rw [List.length_reverse, List.length_reverse]; omega, ⟨by rw [List.length_reverse]; omega, fun x hx => (hl.i (n := 11) (by omega)).2 x (List.mem_reverse.mp hx)⟩, ⟨by rw [List.length_reverse]; have := hw.1; omega, fun x hx => oW.2 x (List.mem_reverse.mp hx)⟩⟩ alln))
  have oL : OkI 20 ls := hl.i (by omega)
  refine for_pre (pre := []) (I := fun pre ls' h' => ∃ L x8 x9 x10, ls' = [some (.ref 1), some (.tup (ls.map .int)), some (.tup (W.map .int)), some (.tup [.int a, .int b, .int w]), some (.int r), some (.tup (T5.map .int)), some (.tup (T6.map .int)), some (.ref (rest.length + 2)), x8, x9, x10, none, none] ∧ (∀ x ∈ L, Tri x) ∧ L.length = 3 + 2 * pre.length ∧ Dk (rest ++ [.list L]) h') (fun _ _ _ _ => rfl) ⟨_, _, _, _, rfl, R3, rfl, hd3⟩ (fun p x q hf ls' h' ⟨L, x8, x9, x10, e1, e2, e3, hd4⟩ => ?_) (fun ls' h' ⟨L, x8, x9, x10, e1, e2, e3, hd4⟩ => ?_)
  · subst e1
    have hp : p.length ≤ 3 := by
      have := congrArg List.length hf
      rw [List.nil_append, rangeL_len, List.length_append] at this
      omega
    obtain ⟨kk, rfl, _, _⟩ := rangeL_mem (show x ∈ rangeL 0 3 by
      have : x ∈ p ++ x :: q := by simp
      rw [hf] at this
      exact this)
    decreasing_trivial
    refine wp_one ?_
    decreasing_trivial
    simp only [forL_cons, forL_nil]
    decreasing_trivial
    refine (oth_turn (kk := kk) (bb := 1) hd4 (by rfl) h1 (by omega) oL oW e2 (by omega) rfl).mono fun f h5 ⟨L5, y10, n1, n2, n3, hd5⟩ => ?_
    subst n3
    decreasing_trivial
    refine (oth_turn (kk := kk) (bb := -1) hd5 (by rfl) h1 (by omega) oL oW n2 (by omega) rfl).mono fun f h6 ⟨L6, z10, o1, o2, o3, hd6⟩ => ?_
    subst o3
    decreasing_trivial
    exact ⟨L6, _, _, _, rfl, o2, by rw [List.length_append]; simp only [List.length_cons, List.length_nil]; omega, hd6⟩
  · subst e1
    rw [List.nil_append, rangeL_len] at e3
    decreasing_trivial
    refine wp_seq ?_
    decreasing_trivial
    rw [p_ne_nil]
    decreasing_trivial
    have fin : ∀ (L : List Val) (x4 : Option Val) (h' : Heap), (∀ x ∈ L, Tri x) → L.length ≤ 20 → Dk (rest ++ [.list L]) h' → Wp (evB (callN G (k + 2)) [.ret (.prim .add [(.var 7), (.prim (.list false) [(.prim .tup [(.prim .add [(.var 1), (.prim .tup [(.lit (.int 1))])]), (.prim .add [(.var 2), (.prim .tup [(.lit (.int 1))])]), (.var 3)])])])] [some (.ref 1), some (.tup (ls.map .int)), some (.tup (W.map .int)), some (.tup [.int a, .int b, .int w]), x4, some (.tup (T5.map .int)), some (.tup (T6.map .int)), some (.ref (rest.length + 2)), x8, x9, x10, none, none] h') (PD (fun v => ∃ L, v = .list L ∧ ∀ x ∈ L, Tri x) rest) := fun L x4 h' hL lL hd => by
      refine wp_one ?_
      decreasing_trivial
      rw [p_add_ref hd.get (by simp only [List.length_cons, List.length_nil]; omega)]
      decreasing_trivial
      refine ⟨_, [_], rfl, ⟨_, rfl, fun x hx => ?_⟩, hd⟩
      rcases List.mem_append.mp hx with hx | hx
      · exact hL x hx
      · rw [List.mem_singleton.mp hx]
        refine ⟨ls ++ [1], W ++ [1], a, b, w, by rw [List.map_append, List.map_append]; rfl, by rw [List.length_append]; omega, by rw [List.length_append, List.length_append]; simp only [List.length_cons, List.length_nil]; omega, ⟨by rw [List.length_append]; simp only [List.length_cons, List.length_nil]; omega, fun x hx => ?_⟩, ⟨by rw [List.length_append]; have := hw.1; simp only [List.length_cons, List.length_nil]; omega, fun x hx => ?_⟩⟩
        · rcases List.mem_append.mp hx with hx | hx
          · exact oL.2 x hx
          · rw [List.mem_singleton.mp hx]; decide
        · rcases List.mem_append.mp hx with hx | hx
          · exact oW.2 x hx
          · rw [List.mem_singleton.mp hx]; decide
    refine wp_if (fun qe => ?_) fun qe => ?_
    · have w1 : 1 ≤ W.length := by
        cases W with
        | nil => cases qe
        | cons _ _ => simp
      array_get_dec
      rename_i h5 hd5 t t0 t1
      have gw : 1 ≤ W.getD t.toNat 0 ∧ W.getD t.toNat 0 ≤ 1000000 := bw _ (by
        rw [List.getD, List.getElem?_eq_getElem (by omega), Option.getD_some]
        exact List.getElem_mem _)
      have c3 := len_lo (W.map Val.int) t0
      have c4 := len_hi (W.map Val.int) (i := t + 1) (by omega)
      rw [List.length_map] at c3 c4
      have w11 := hw.1
      simp only [recv_append hd5.get, if_tt, if_true]
      decreasing_trivial
      obtain ⟨T8, e8, n8, b8⟩ := put42 (z := W.getD t.toNat 0 + 1) hw t0 t1 (by omega)
      rw [e8, append_ref hd5.get (by omega), wp_ok]
      have hd6 := hd5.set (.list (L ++ [.tup [.tup (ls.map .int), .tup (T8.map .int), .tup [.int a, .int b, .int w]]]))
      refine wp_one ?_
      decreasing_trivial
      simp only [recv_append hd6.get, if_tt, if_true]
      decreasing_trivial
      have ed : ∀ l : List Int, (l.map Val.int).dropLast = l.dropLast.map Val.int := fun l => by simp
      rw [cut_front, cut_front, ed, ed, append_ref hd6.get (by rw [List.length_append]; simp only [List.length_cons, List.length_nil]; omega)]
      decreasing_trivial
      refine fin _ _ _ (fun x hx => ?_) ?_ (hd6.set _)
      · rcases List.mem_append.mp hx with hx | hx
        · rcases List.mem_append.mp hx with hx | hx
          · exact e2 x hx
          · rw [List.mem_singleton.mp hx]
            exact ⟨ls, T8, a, b, w, rfl, h1, by omega, oL, b8.i (by omega)⟩
        · rw [List.mem_singleton.mp hx]
          refine ⟨ls.dropLast, W.dropLast, a, b, w, rfl, by rw [List.length_dropLast]; omega, by rw [List.length_dropLast, List.length_dropLast]; omega, ⟨by rw [List.length_dropLast]; omega, fun x hx => oL.2 x (List.dropLast_subset _ hx)⟩, ⟨by rw [List.length_dropLast]; omega, fun x hx => oW.2 x (List.dropLast_subset _ hx)⟩⟩
      · rw [List.length_append, List.length_append]; simp only [List.length_cons, List.length_nil]; omega
    · rw [b_nil]
      exact fin L _ h' e2 (by omega) hd4
/-! ### the law -/
abbrev B0 : Nat := 1000000000000000000000000000000000000000
theorem B0_lt : B0 + 2000 < 2 ^ 1000 := by decide +kernel
def TH (v : Val) : Prop := Th (B0 + 2000) 16 300000 6 v
theorem told42 {ls W : List Int} {a b w : Int} (s : Sml ls W a b w) {B F : Nat → Int} (hF : IsF (lcost (scanI 0 ls) W a b w) ls.length F) {l : List Nat} (hl : Br (lcost (scanI 0 ls) W a b w) ls.length B 0 l) (hn : ls.length ≤ 11) : Th B0 14 23100 2 (leastV l F ls.length) := by
  have B0v : B0 = 1000000000000000000000000000000000000000 := rfl
  have g := gd_least s hF hl (n := 11) hn (by decide)
  have hl0 := hl.len
  refine ⟨?_, Nat.le_trans g.l (by decide), g.d⟩
  have k1 : thV B0 14 (.tup ((brk l).map .int)) = true := by
    refine Bool.and_eq_true_iff.mpr ⟨decide_eq_true (by rw [List.length_map, brk_len]; omega), thVs_iff.mpr fun x hx => ?_⟩
    obtain ⟨i, hi, rfl⟩ := List.mem_map.mp hx
    obtain ⟨t, ht, rfl⟩ := List.mem_map.mp hi
    have := hl.mem t ht
    exact decide_eq_true (by omega)
  have k2 : thV B0 14 (.tup ((tabI F (ls.length + 1)).map .int)) = true := by
    refine Bool.and_eq_true_iff.mpr ⟨decide_eq_true (by rw [List.length_map, tabI_len]; omega), thVs_iff.mpr fun x hx => ?_⟩
    obtain ⟨i, hi, rfl⟩ := List.mem_map.mp hx
    obtain ⟨t, ht, rfl⟩ := List.mem_map.mp hi
    have ht := List.mem_range.mp ht
    have := fb_bd s hF (j := t) (by omega)
    exact decide_eq_true (by omega)
  show (decide (2 ≤ 14) && (thV B0 14 (.tup ((brk l).map .int)) && (thV B0 14 (.tup ((tabI F (ls.length + 1)).map .int)) && true))) = true
  rw [k1, k2]
  rfl
theorem thing42 {rest h : Heap} {v : Val} {L : List Val} {tw : Bool} {x0 x3 x4 x5 x6 x9 x10 x11 x12 x13 : Option Val} {m : Nat} (hd : Dk (rest ++ [.list L]) h) (t : Th B0 14 23100 2 v) (hL : ∀ x ∈ L, TH x) (hm : L.length ≤ 1000) (em : m = rest.length + 2) :
    Wp (evB (callN G 40) b0_2 [x0, some (.ref 1), some (.bool tw), x3, x4, x5, x6, some v, some (.ref m), x9, x10, x11, x12, x13] h) fun f h' => ∃ L' x13, L'.length = L.length + 1 ∧ (∀ x ∈ L', TH x) ∧ f = .nx [x0, some (.ref 1), some (.bool tw), x3, x4, x5, x6, some v, some (.ref m), x9, x10, x11, x12, x13] ∧ Dk (rest ++ [.list L']) h' := by
  subst em
  have SLv : SL = 16777216 := rfl
  have b1 := B0_lt
  have B0v : B0 = 1000000000000000000000000000000000000000 := rfl
  refine wp_seq ?_
  decreasing_trivial
  refine (spoilt42 2 (k := 35) hd t (by decide) (by decide) (Nat.le_refl _) (by omega) t.d).mono fun u h1 ⟨t1, hd1⟩ => ?_
  decreasing_trivial
  refine wp_one ?_
  decreasing_trivial
  simp only [recv_append hd1.get, if_tt, if_true]
  have endd : ∀ u' h2, TH u' → Dk (rest ++ [.list L]) h2 → Wp (evP .append [.ref (rest.length + 2), u'] h2) fun a h3 => ∃ L' x13, L'.length = L.length + 1 ∧ (∀ x ∈ L', TH x) ∧ Flow.nx [x0, some (.ref 1), some (.bool tw), x3, x4, x5, x6, some v, some (.ref (rest.length + 2)), x9, x10, x11, x12, some u] = .nx [x0, some (.ref 1), some (.bool tw), x3, x4, x5, x6, some v, some (.ref (rest.length + 2)), x9, x10, x11, x12, x13] ∧ Dk (rest ++ [.list L']) h3 := fun u' h2 tu hd2 => by
    rw [append_ref hd2.get (by omega), wp_ok]
    refine ⟨_, _, ?_, fun x hx => ?_, rfl, hd2.set _⟩
    · rw [List.length_append]; rfl
    · rcases List.mem_append.mp hx with hx | hx
      · exact hL x hx
      · rw [List.mem_singleton.mp hx]; exact tu
  decreasing_trivial
  cases tw with
  | true =>
    simp only [if_tt, if_true]
    decreasing_trivial
    refine (spoilt42 4 (k := 33) hd1 t1 (by decide) (by decide) (by omega) (by omega) t1.d).mono fun u2 h2 ⟨t2, hd2⟩ => ?_
    decreasing_trivial
    exact endd u2 h2 (t2.mono (by omega) (by decide) (by decide) (by decide)) hd2
  | false =>
    simp only [if_ff, if_false]
    decreasing_trivial
    exact endd u h1 (t1.mono (by omega) (by decide) (by decide) (by decide)) hd1
end M
namespace M
open PySem
local macro_rules | `(tactic| sizeOf_list_dec) => `(tactic| first | omega | (simp only [SL_val, List.length_map, List.length_append, List.length_cons, List.length_nil, rangeL_len, List.length_replicate, List.length_reverse]; omega) | (simp only [SL_val, List.length_map, List.length_append, List.length_cons, List.length_nil, rangeL_len, List.length_replicate, List.length_reverse]; done) | rfl)
local macro_rules | `(tactic| decreasing_trivial) => `(tactic| try simp (disch := sizeOf_list_dec) only [wp_bind, wp_ok, bind_ok, e_lit, e_var, e_prim, e_and, e_or, e_not, e_ite, e_chain, e_call, e_comp, e_frz, e_meth, es_nil, es_cons, c_nil, c_cons, i_val, i_range, i_enum, i_zip, s_asg, s_par, s_asg2, setsTg, s_aug, s_expr, s_ite, s_wh, s_for, s_ret, s_brk, t_ev, st_nil, st_cons, st_name, st_tup, st_ix,
  List.getElem?_cons_zero, List.getElem?_cons_succ, List.set_cons_zero, List.set_cons_succ, List.map_cons, List.map_nil, List.cons_append, List.nil_append, List.append_nil, List.replicate_succ, List.replicate_zero, selV, Option.map_some,
  p_add_int, p_add_str, p_add_tup, p_add_list, p_sub, p_neg, p_mul_int, p_fdiv, p_mod, p_pow6, p_eq_int, p_ne_int, p_eq_str, p_ne_str, p_lt, p_gt, p_le, p_ge, p_isNone, p_isNotNone, p_isTrue, p_isFalse, p_isNotTrue, p_isNotFalse, p_mem_sign, p_notmem_sign, p_ix_str, p_ix_list, p_ix_tup, optV_some, p_sl11, p_sl10, p_sl01, p_sl00, sl_str, sl_list, sl_tup, p_rev_str, p_rev_list, p_rev_tup, p_tup, p_list, p_len_str, p_len_list, p_len_tup, p_min2, p_max2, p_int_bool, p_int_int, p_bool, p_str_str, p_ord, p_listOf_list, p_listOf_tup, p_tupOf_list, p_tupOf_tup, truth_bool, truth_int, truth_str, truth_list, truth_tup, if_tt, if_ff, if_true, if_false, it_list, it_tup, it_str,
  rangeL0_at, at_0, at_1, at_2, at_3, decide_eq_true, decide_eq_false, beq_self_eq_true, Bool.not_true, Bool.not_false, Bool.false_eq_true, Bool.or_true, Bool.or_false, Bool.true_or, Bool.false_or, Bool.and_true, Bool.and_false, Bool.true_and, Bool.false_and, atI_ints, List.length_map, okList_ok, okTup_ok, okList_mut, SL_val, List.length_cons, List.length_nil, Nat.reduceAdd, Int.reduceToNat, Int.reducePow, Nat.reduceLeDiff, Nat.zero_add, killL, List.foldl_cons, List.foldl_nil, setTg])
local macro_rules | `(tactic| get_elem_tactic_trivial) => `(tactic| exact pr_ret rfl)
local macro_rules | `(tactic| array_mem_dec) => `(tactic| (refine (draw_at rfl (by omega) (by omega) (by assumption)).mono ?_; rintro _ _ ⟨⟨_, er, _, _⟩, _⟩; subst er; decreasing_trivial))
local macro_rules | `(tactic| array_get_dec) => `(tactic| decreasing_trivial; repeat (first | (refine wp_one ?_; decreasing_trivial) | (refine wp_seq ?_; decreasing_trivial) | array_mem_dec))
local macro_rules | `(tactic| clean_wf) => `(tactic| repeat (first | exact alln | refine allc (intIn (by omega) (by omega)) ?_))
local macro_rules | `(tactic| exists $ts,*) => `(tactic| (simp (disch := sizeOf_list_dec) only [$[$ts:term],*]; array_get_dec))
def XS (X Y : Val) : List Val := [.tup [X, Y], .none, .bool true, .int 0, .str [], .tup [], .list [], .dict [] [], .tup [.tup [X, Y]], .tup [X, Y, .tup []], .list [X, Y]]
def YS : List Val := [.tup [.tup [], .tup []], .tup [.tup [], .tup [.int 0]], .tup [.int 0, .int 0], .tup [.tup [], .tup [.int 0, .int 0]]]
theorem things0 {X Y : Val} (t : TH (.tup [X, Y])) (kx : thV (B0 + 2000) 16 X = true) (ky : thV (B0 + 2000) 16 Y = true) (w : wt X + wt Y ≤ 23100) (dx : X.deep ≤ 1) (dy : Y.deep ≤ 1) : ∀ x ∈ XS X Y ++ YS, TH x := by
  have c : ∀ x, thV 0 3 x = true → wt x ≤ 300000 → x.deep ≤ 6 → TH x := fun x h1 h2 h3 => ⟨thV_mono (Nat.zero_le _) (by decide) h1, h2, h3⟩
  have h1 : ∀ x ∈ XS X Y, TH x := by
    refine allc t (allc (c _ rfl (by decide) (by decide)) (allc (c _ rfl (by decide) (by decide)) (allc (c _ rfl (by decide) (by decide)) (allc (c _ rfl (by decide) (by decide)) (allc (c _ rfl (by decide) (by decide)) (allc (c _ rfl (by decide) (by decide)) (allc (c _ rfl (by decide) (by decide)) (allc ?_ (allc ?_ (allc ?_ alln))))))))))
    · exact ⟨by simp [thV, thVs, kx, ky], by simp only [wt, wts]; omega, by simp only [Val.deep, Val.deeps]; omega⟩
    · exact ⟨by simp [thV, thVs, kx, ky], by simp only [wt, wts]; omega, by simp only [Val.deep, Val.deeps]; omega⟩
    · exact ⟨by simp [thV, thVs, kx, ky], by simp only [wt, wts]; omega, by simp only [Val.deep, Val.deeps]; omega⟩
  have h2 : ∀ x ∈ YS, TH x := allc (c _ rfl (by decide) (by decide)) (allc (c _ rfl (by decide) (by decide)) (allc (c _ rfl (by decide) (by decide)) (allc (c _ rfl (by decide) (by decide)) alln)))
  intro x hx
  rcases List.mem_append.mp hx with hx | hx
  · exact h1 x hx
  · exact h2 x hx
theorem addm_end {h : Heap} {xs ys : List Val} (l : xs.length ≤ 100) (l2 : ys.length ≤ 100) : evP .addm [.ref h.length, .list ys] (h ++ [Obj.list xs] : Heap) = .ok (.ref (h.length + 1)) (h ++ [Obj.list xs] ++ [Obj.list (xs ++ ys)] : Heap) := by
  have SLv : SL = 16777216 := rfl
  have e1 : dr (h ++ [Obj.list xs] : Heap) (.ref h.length) = some (.list xs) := by
    unfold dr
    simp only [at_end]
  have e2 : dr (h ++ [Obj.list xs] : Heap) (.list ys) = some (.list ys) := rfl
  show addM (h ++ [Obj.list xs] : Heap) (.ref h.length) (.list ys) = _
  unfold addM
  rw [e1, e2]
  simp only
  rw [okList_mut _ _ (by rw [List.length_append]; omega), List.length_append]
  rfl
theorem turn42 {rest h : Heap} {s x3 x4 x5 x6 x7 x8 x9 x10 x11 x12 x13 : Option Val} {tw : Bool} (hd : Dk rest h) : Wp (evB (callN G 40) b0_1 [s, some (.ref 1), some (.bool tw), x3, x4, x5, x6, x7, x8, x9, x10, x11, x12, x13] h) fun f h' => (∃ x3 x4 x5 x6 x7 x8 x9 x10 x11 x12 x13 l, f = .nx [s, some (.ref 1), some (.bool tw), x3, x4, x5, x6, x7, x8, x9, x10, x11, x12, x13] ∧ Dk (rest ++ l) h') := by
  have SLv : SL = 16777216 := rfl
  have b1 := B0_lt
  refine wp_seq ?_
  decreasing_trivial
  refine (words42 (k := 38) hd).mono fun v h1 ⟨⟨ls, W, A, e⟩, hd1⟩ => ?_
  subst e
  array_get_dec
  refine (frame42 (k := 38) hd1).mono fun v h' ⟨⟨a, b, w, f, e⟩, hd⟩ => ?_
  subst e
  have s1 := A.sml f (by decide)
  have h1 := s1.h1
  have h2 := A.h2
  obtain ⟨B, hB⟩ := isB_ex (lcost (scanI 0 ls) W a b w) ls.length
  obtain ⟨F, hF⟩ := isF_ex (lcost (scanI 0 ls) W a b w) ls.length
  obtain ⟨l, hl⟩ := Br.ex hB ls.length 0 (by omega) (by omega)
  have hle := fun h => least_ok (G := G) (k := 37) (i := 5) (ib := 6) (il := 7) (is := 8) (iw := 9) (h := h) rfl rfl rfl rfl rfl h1 (by omega) s1.hW hB hF hl
  have T0 := told42 s1 hF hl h2
  have T1 : TH (leastV l F ls.length) := T0.mono (by decide +kernel) (by decide) (by decide) (by decide)
  array_get_dec
  exists hle
  have ho := fun h => holds_ok (G := G) (k := 37) (i := 13) (ib := 15) (iw := 17) (ic := 14) (is := 8) (ia := 16) (il := 7) (h := h) rfl rfl rfl rfl rfl rfl rfl (ls := ls) (W := W) (a := a) (b := b) (w := w) (v := leastV l F ls.length) h1 (by omega) s1.hW (thV_okA b1 T1.k) (Nat.le_trans T1.l (by decide))
  rw [holds_least hB hF hl] at ho
  unfold leastV at T0 T1 ho
  generalize hX : Val.tup ((brk l).map .int) = X at T0 T1 ho ⊢
  generalize hY : Val.tup ((tabI F (ls.length + 1)).map .int) = Y at T0 T1 ho ⊢
  have xs1 : ∃ xs, X = .tup xs := ⟨_, hX.symm⟩
  clear hX hY
  have hW11 : W.length ≤ 11 := by have := A.hW; omega
  have oL : OkI 20 ls := ⟨by omega, fun x hx => by have := A.bl x hx; omega⟩
  have oW : OkI 20 W := ⟨by omega, fun x hx => by have := A.bw x hx; omega⟩
  have R : ∀ v h, TH v → callN G 40 18 [.tup (ls.map .int), .tup (W.map .int), .tup [.int a, .int b, .int w], v] h = .ok (.bool true) h := fun v h t => right42 h1 s1.hW oL oW t b1 (by decide) (by decide) (by decide)
  obtain ⟨_, t2, t3⟩ := T1.items
  have t0l := T0.l
  have t0d := T0.d
  have kx := (t3 X (by simp)).1
  have ky := (t3 Y (by simp)).1
  have wxy : wt X + 2 + (wt Y + 2 + 0) + 3 ≤ 23100 := t0l
  have dxy : max X.deep (max Y.deep 0) + 1 ≤ 2 := t0d
  have dx : X.deep ≤ 1 := by omega
  have dy : Y.deep ≤ 1 := by omega
  show Wp (evP .addm [.ref h'.length, .list YS] (h' ++ [.list (XS X Y)])) _
  have hd3 := ((hd.new (.list (XS X Y))).2.new (.list (XS X Y ++ YS)))
  rw [addm_end (by show (11 : Nat) ≤ 100; decide) (by show (4 : Nat) ≤ 100; decide), wp_ok]
  have rl := hd.len
  have e9 : h'.length + 1 = (rest ++ [Obj.list (XS X Y)]).length + 2 := by rw [List.length_append, rl]; rfl
  rw [e9]
  have hd4 := hd3.2
  generalize hrest : rest ++ [Obj.list (XS X Y)] = rest2 at hd4 ⊢
  have all0 : ∀ x ∈ XS X Y ++ YS, TH x := things0 T1 kx ky (by omega) dx dy
  refine wp_seq ?_
  decreasing_trivial
  refine for_pre (pre := []) (I := fun pre ls' h' => ∃ L x9 x13, ls' = [s, some (.ref 1), some (.bool tw), x3, some (.tup (ls.map .int)), some (.tup (W.map .int)), some (.tup [.int a, .int b, .int w]), some (.tup [X, Y]), some (.ref (rest2.length + 2)), x9, x10, x11, x12, x13] ∧ (∀ x ∈ L, TH x) ∧ L.length = 15 + pre.length ∧ Dk (rest2 ++ [.list L]) h') (fun _ _ _ _ => rfl) ⟨_, _, _, rfl, all0, rfl, hd4⟩ (fun p x q hf ls' h' ⟨L, x9, x13, e1, e2, e3, hd4⟩ => ?_) (fun ls' h' ⟨L, x9, x13, e1, e2, e3, hd4⟩ => ?_)
  · subst e1
    have hp : p.length ≤ 10 := by
      have := congrArg List.length hf
      rw [List.nil_append, rangeL_len, List.length_append] at this
      omega
    decreasing_trivial
    refine (thing42 (m := rest2.length + 2) hd4 T0 e2 (by omega) rfl).mono fun f h5 ⟨L5, y13, n1, n2, n3, hd5⟩ => ?_
    subst n3
    exact ⟨L5, _, _, rfl, n2, by rw [List.length_append]; simp only [List.length_cons, List.length_nil]; omega, hd5⟩
  · subst e1
    rw [List.nil_append, rangeL_len] at e3
    decreasing_trivial
    refine wp_seq ?_
    have ei : ∀ x13, evI (callN G 40) (.val (.var 8)) [s, some (.ref 1), some (.bool tw), x3, some (.tup (ls.map .int)), some (.tup (W.map .int)), some (.tup [.int a, .int b, .int w]), some (.tup [X, Y]), some (.ref (rest2.length + 2)), x9, x10, x11, x12, x13] h' = .ok (L, some (rest2.length + 2, L)) h' := fun x13 => by
      decreasing_trivial
      show (match (match h'[rest2.length + 2]? with
          | some (Obj.list xs) => some (xs, some (rest2.length + 2, xs))
          | _ => none) with
          | some p => Res.ok p _
          | none => .stuck) = _
      rw [hd4.get]
    rw [s_ite, t_ev, e_prim, es_cons, e_comp, ei, bind_ok]
    rw [turns_pure (g := fun v => []) (by show (match h'[rest2.length + 2]? with | some (Obj.list ys) => Val.sames ys _ | _ => false) = true; rw [hd4.get]; exact sames_refl _) (fun x hx => by
      decreasing_trivial
      rw [R x _ (e2 x hx)]
      decreasing_trivial)]
    rw [bind_ok, show L.flatMap (fun _ => ([] : List Val)) = [] by simp]
    decreasing_trivial
    rw [show evP .ne [.list [], .list []] h' = .ok (.bool false) h' from rfl]
    decreasing_trivial
    rw [b_nil]
    decreasing_trivial
    refine wp_seq ?_
    decreasing_trivial
    refine (others42 (k := 37) hd4 h1 A.hW ⟨h2, fun x hx => by have := A.bl x hx; omega⟩ ⟨hW11, fun x hx => by have := A.bw x hx; omega⟩ A.bl A.bw).mono fun v h5 ⟨⟨L2, e5, q5⟩, hd5⟩ => ?_
    subst e5
    decreasing_trivial
    refine for_draw (I := fun ls' => ∃ x10 x11 x12, ls' = [s, some (.ref 1), some (.bool tw), x3, some (.tup (ls.map .int)), some (.tup (W.map .int)), some (.tup [.int a, .int b, .int w]), some (.tup [X, Y]), some (.ref (rest2.length + 2)), x9, x10, x11, x12, x13]) hd5 ⟨_, _, _, rfl⟩ (fun x hx ls' h ⟨x10, x11, x12, e⟩ hd => ?_) fun ls' h ⟨x10, x11, x12, e⟩ hd => ?_
    · subst e
      obtain ⟨ls2, W2, a2, b2, w2, rfl, g1, g2, g3, g4⟩ := q5 x hx
      decreasing_trivial
      refine wp_one ?_
      decreasing_trivial
      rw [right42 g1 g2 g3 g4 T1 b1 (by decide) (by decide) (by decide)]
      decreasing_trivial
      exact ⟨⟨_, _, _, rfl⟩, hd⟩
    · subst e
      decreasing_trivial
      refine wp_one ?_
      decreasing_trivial
      rw [ho]
      decreasing_trivial
      exact ⟨_, _, _, _, _, _, _, _, _, _, _, [Obj.list (XS X Y), .list L], rfl, by
        have e : rest ++ [Obj.list (XS X Y), .list L] = rest2 ++ [.list L] := by rw [← hrest, List.append_assoc]; rfl
        rw [e]; exact hd⟩
theorem law_ok {ns : List Int} (hn : ns.length ≤ 63) : Wp (callN G 41 0 [.scr (ns.map .int)] []) fun v _ => v = .bool true := by
  rw [call_succ rfl]
  refine run_top rfl rfl ?_
  show Wp (evB (callN G 40) b0 [some (.scr (ns.map .int)), none, none, none, none, none, none, none, none, none, none, none, none, none] []) _
  array_get_dec
  rw [call_succ (k := 39) (show G 1 = some ⟨1, 2, true, bDeck⟩ from rfl)]
  refine (deck_ok hn).mono fun v h1 ⟨e, hd1⟩ => ?_
  subst e
  array_get_dec
  rename_i h2 hd2 z z0 z1
  refine for_inv (I := fun ls h => (∃ x3 x4 x5 x6 x7 x8 x9 x10 x11 x12 x13, ls = [some (.scr (ns.map .int)), some (.ref 1), some (.bool (z == 1)), x3, x4, x5, x6, x7, x8, x9, x10, x11, x12, x13]) ∧ ∃ rest, Dk rest h) (fun _ _ _ => rfl) ⟨⟨_, _, _, _, _, _, _, _, _, _, _, rfl⟩, _, hd2⟩ (fun x hx ls h ⟨⟨x3, x4, x5, x6, x7, x8, x9, x10, x11, x12, x13, e⟩, rest, hd⟩ => ?_) fun ls h ⟨⟨x3, x4, x5, x6, x7, x8, x9, x10, x11, x12, x13, e⟩, rest, hd⟩ => ?_
  · subst e
    refine (turn42 hd).mono fun f h' ⟨x3, x4, x5, x6, x7, x8, x9, x10, x11, x12, x13, l, e, hd⟩ => ?_
    subst e
    exact ⟨⟨_, _, _, _, _, _, _, _, _, _, _, rfl⟩, _, hd⟩
  · subst e
    array_get_dec
end M
namespace M
open PySem PySem.Spec PyProof.Rows L2
theorem law_says (ns : List Int) (hn : ns.length ≤ 63) : Says (callN G 41 0) ns := by
  have q := law_ok hn
  unfold Says
  cases e : callN G 41 0 [.scr (ns.map Val.int)] [] with
  | ok v h => rw [e] at q; have q : v = .bool true := q; exact ⟨h, by rw [q]⟩
  | exc _ _ => rw [e] at q; exact q.elim
  | stuck => rw [e] at q; exact q.elim
set_option maxHeartbeats 0
abbrev PP : Program := PySem.Challenge.pw_fewbrackets_k42_least_spoilt
def top (i : Nat) : Stmt := PP.main.body.getD i (.Pass ⟨0, 0, 0, 0⟩)
def d0 : DE := ⟨"law", ["_law_script"], ["_law_script", "_law_deck_here", "_law_twice", "_law_turn", "_law_lengths", "_law_weights", "_law_frame_here", "_law_told", "_law_things", "_law_k", "_law_some", "_law_more", "_law_other_here", "_law_thing"], ["_law_script", "_law_deck_here", "_law_twice", "_law_turn", "_law_lengths", "_law_weights", "_law_frame_here", "_law_told", "_law_things", "_law_k", "_law_some", "_law_more", "_law_other_here", "_law_thing"], [], ⟨1, 14, false, b0⟩, defArgs (top 28), defBody (top 28), defScope (top 28), none, "law"⟩
def e0 : DX := ⟨d0, [], []⟩
theorem bd0 : BindersAt e0 := fun K f fd F => snil
def d1 : DE := ⟨"_law_deck", ["_law_script"], ["_law_script", "_law_cell"], ["_law_script"], [⟨1, [], [.inl 0]⟩], ⟨1, 2, true, b1⟩, defArgs (top 16), defBody (top 16), defScope (top 16), none, "_law_deck"⟩
def e1 : DX := ⟨d1, [], []⟩
theorem bd1 : BindersAt e1 := fun K f fd F => (scons (bnd_full F rfl fun kV doc pm an cdv ct us ws h1 h2 => match us, ws, h1, h2 with | [a0], [], _, _ => ⟨[a0], (.cons rfl .nil), rfl⟩) snil)
def d2 : DE := ⟨"_law_draw", ["_law_deck_here", "_law_most"], ["_law_deck_here", "_law_most", "_law_cell", "_law_number"], ["_law_deck_here", "_law_most", "_law_cell", "_law_number"], [⟨2, [], [.inl 0, .inl 1]⟩], ⟨2, 4, false, b2⟩, defArgs (top 17), defBody (top 17), defScope (top 17), none, "_law_draw"⟩
def e2 : DX := ⟨d2, [], []⟩
theorem bd2 : BindersAt e2 := fun K f fd F => (scons (bnd_full F rfl fun kV doc pm an cdv ct us ws h1 h2 => match us, ws, h1, h2 with | [a0, a1], [], _, _ => ⟨[a0, a1], (.cons rfl (.cons rfl .nil)), rfl⟩) snil)
def d3 : DE := ⟨"_law_words_drawn", ["_law_deck_here", "_law_most"], ["_law_deck_here", "_law_most", "_law_many", "_law_way", "_law_lengths", "_law_weights", "_law_k"], ["_law_deck_here", "_law_most", "_law_many", "_law_way", "_law_lengths", "_law_weights"], [⟨2, [], [.inl 0, .inl 1]⟩], ⟨2, 7, false, b3⟩, defArgs (top 23), defBody (top 23), defScope (top 23), none, "_law_words_drawn"⟩
def e3 : DX := ⟨d3, [], []⟩
theorem bd3 : BindersAt e3 := fun K f fd F => (scons (bnd_full F rfl fun kV doc pm an cdv ct us ws h1 h2 => match us, ws, h1, h2 with | [a0, a1], [], _, _ => ⟨[a0, a1], (.cons rfl (.cons rfl .nil)), rfl⟩) snil)
def d4 : DE := ⟨"_law_frame", ["_law_deck_here"], ["_law_deck_here", "_law_wide"], ["_law_deck_here", "_law_wide"], [⟨1, [], [.inl 0]⟩], ⟨1, 2, false, b4⟩, defArgs (top 18), defBody (top 18), defScope (top 18), none, "_law_frame"⟩
def e4 : DX := ⟨d4, [], []⟩
theorem bd4 : BindersAt e4 := fun K f fd F => (scons (bnd_full F rfl fun kV doc pm an cdv ct us ws h1 h2 => match us, ws, h1, h2 with | [a0], [], _, _ => ⟨[a0], (.cons rfl .nil), rfl⟩) snil)
def d5 : DE := ⟨"least", ["lengths", "weights", "first", "further", "width"], ["lengths", "weights", "first", "further", "width", "sums", "frame", "costs", "many", "breaks", "start", "stop"], ["lengths", "weights", "first", "further", "width", "sums", "frame", "costs", "many", "breaks", "start", "stop"], [⟨2, ["first", "further", "width"], [.inl 0, .inl 1, .inl 2, .inl 3, .inl 4]⟩], ⟨5, 12, false, b5⟩, defArgs (top 9), defBody (top 9), defScope (top 9), none, "least"⟩
def e5 : DX := ⟨d5, [], [("first", (.int (0))), ("further", (.int (4))), ("width", (.int (60)))]⟩
theorem bd5 : BindersAt e5 := fun K f fd F => (scons (bnd_full F rfl fun kV doc pm an cdv ct us ws h1 h2 => match us, ws, h1, h2 with | [a0, a1], [z0, z1, z2], _, _ => ⟨[a0, a1, z0, z1, z2], (.cons rfl (.cons rfl (.cons rfl (.cons rfl (.cons rfl .nil))))), rfl⟩) snil)
def d6 : DE := ⟨"costs_behind", ["sums", "weights", "frame"], ["sums", "weights", "frame", "many", "costs", "start", "some", "stop"], ["sums", "weights", "frame", "many", "costs", "start", "some"], [⟨3, [], [.inl 0, .inl 1, .inl 2]⟩], ⟨3, 8, false, b6⟩, defArgs (top 8), defBody (top 8), defScope (top 8), none, "costs_behind"⟩
def e6 : DX := ⟨d6, [], []⟩
theorem bd6 : BindersAt e6 := fun K f fd F => (scons (bnd_full F rfl fun kV doc pm an cdv ct us ws h1 h2 => match us, ws, h1, h2 with | [a0, a1, a2], [], _, _ => ⟨[a0, a1, a2], (.cons rfl (.cons rfl (.cons rfl .nil))), rfl⟩) snil)
def d7 : DE := ⟨"line_cost", ["sums", "weights", "frame", "start", "stop"], ["sums", "weights", "frame", "start", "stop", "first", "further", "wide", "column", "signs", "cost"], ["sums", "weights", "frame", "start", "stop", "first", "further", "wide", "column", "signs", "cost"], [⟨5, [], [.inl 0, .inl 1, .inl 2, .inl 3, .inl 4]⟩], ⟨5, 11, false, b7⟩, defArgs (top 5), defBody (top 5), defScope (top 5), none, "line_cost"⟩
def e7 : DX := ⟨d7, [], []⟩
theorem bd7 : BindersAt e7 := fun K f fd F => (scons (bnd_full F rfl fun kV doc pm an cdv ct us ws h1 h2 => match us, ws, h1, h2 with | [a0, a1, a2, a3, a4], [], _, _ => ⟨[a0, a1, a2, a3, a4], (.cons rfl (.cons rfl (.cons rfl (.cons rfl (.cons rfl .nil))))), rfl⟩) snil)
def d8 : DE := ⟨"sums_of", ["lengths"], ["lengths", "found", "length"], ["lengths", "found", "length"], [⟨1, [], [.inl 0]⟩], ⟨1, 3, false, b8⟩, defArgs (top 4), defBody (top 4), defScope (top 4), none, "sums_of"⟩
def e8 : DX := ⟨d8, [], []⟩
theorem bd8 : BindersAt e8 := fun K f fd F => (scons (bnd_full F rfl fun kV doc pm an cdv ct us ws h1 h2 => match us, ws, h1, h2 with | [a0], [], _, _ => ⟨[a0], (.cons rfl .nil), rfl⟩) snil)
def d9 : DE := ⟨"worths_ahead", ["sums", "weights", "frame"], ["sums", "weights", "frame", "worths", "stop", "start"], ["sums", "weights", "frame", "worths", "stop"], [⟨3, [], [.inl 0, .inl 1, .inl 2]⟩], ⟨3, 6, false, b9⟩, defArgs (top 7), defBody (top 7), defScope (top 7), none, "worths_ahead"⟩
def e9 : DX := ⟨d9, [], []⟩
theorem bd9 : BindersAt e9 := fun K f fd F => (scons (bnd_full F rfl fun kV doc pm an cdv ct us ws h1 h2 => match us, ws, h1, h2 with | [a0, a1, a2], [], _, _ => ⟨[a0, a1, a2], (.cons rfl (.cons rfl (.cons rfl .nil))), rfl⟩) snil)
def d10 : DE := ⟨"_law_others", ["_law_deck_here", "_law_lengths", "_law_weights", "_law_frame_here"], ["_law_deck_here", "_law_lengths", "_law_weights", "_law_frame_here", "_law_at", "_law_longer", "_law_shorter", "_law_found", "_law_k", "_law_by", "_law_some", "_law_j", "_law_one"], ["_law_deck_here", "_law_lengths", "_law_weights", "_law_frame_here", "_law_at", "_law_longer", "_law_shorter", "_law_found", "_law_k", "_law_by", "_law_some"], [⟨4, [], [.inl 0, .inl 1, .inl 2, .inl 3]⟩], ⟨4, 13, false, b10⟩, defArgs (top 27), defBody (top 27), defScope (top 27), none, "_law_others"⟩
def e10 : DX := ⟨d10, [], []⟩
theorem bd10 : BindersAt e10 := fun K f fd F => (scons (bnd_full F rfl fun kV doc pm an cdv ct us ws h1 h2 => match us, ws, h1, h2 with | [a0, a1, a2, a3], [], _, _ => ⟨[a0, a1, a2, a3], (.cons rfl (.cons rfl (.cons rfl (.cons rfl .nil)))), rfl⟩) snil)
def d11 : DE := ⟨"_law_spoilt", ["_law_deck_here", "_law_thing"], ["_law_deck_here", "_law_thing", "_law_at"], ["_law_deck_here", "_law_thing", "_law_at"], [⟨2, [], [.inl 0, .inl 1]⟩], ⟨2, 3, false, b11⟩, defArgs (top 25), defBody (top 25), defScope (top 25), none, "_law_spoilt"⟩
def e11 : DX := ⟨d11, [], []⟩
theorem bd11 : BindersAt e11 := fun K f fd F => (scons (bnd_full F rfl fun kV doc pm an cdv ct us ws h1 h2 => match us, ws, h1, h2 with | [a0, a1], [], _, _ => ⟨[a0, a1], (.cons rfl (.cons rfl .nil)), rfl⟩) snil)
def d12 : DE := ⟨"_law_other", ["_law_deck_here", "_law_thing"], ["_law_deck_here", "_law_thing", "_law_way", "_law_at", "_law_some", "_law_odd"], ["_law_deck_here", "_law_thing", "_law_way", "_law_at", "_law_some", "_law_odd"], [⟨2, [], [.inl 0, .inl 1]⟩], ⟨2, 6, false, b12⟩, defArgs (top 24), defBody (top 24), defScope (top 24), none, "_law_other"⟩
def e12 : DX := ⟨d12, [], []⟩
theorem bd12 : BindersAt e12 := fun K f fd F => (scons (bnd_full F rfl fun kV doc pm an cdv ct us ws h1 h2 => match us, ws, h1, h2 with | [a0, a1], [], _, _ => ⟨[a0, a1], (.cons rfl (.cons rfl .nil)), rfl⟩) snil)
def d13 : DE := ⟨"least_holds", ["lengths", "weights", "thing", "first", "further", "width"], ["lengths", "weights", "thing", "first", "further", "width", "sums", "frame", "breaks", "worths"], ["lengths", "weights", "thing", "first", "further", "width", "sums", "frame", "breaks", "worths"], [⟨3, ["first", "further", "width"], [.inl 0, .inl 1, .inl 2, .inl 3, .inl 4, .inl 5]⟩], ⟨6, 10, false, b13⟩, defArgs (top 14), defBody (top 14), defScope (top 14), none, "least_holds"⟩
def e13 : DX := ⟨d13, [], [("first", (.int (0))), ("further", (.int (4))), ("width", (.int (60)))]⟩
theorem bd13 : BindersAt e13 := fun K f fd F => (scons (bnd_full F rfl fun kV doc pm an cdv ct us ws h1 h2 => match us, ws, h1, h2 with | [a0, a1, a2], [z0, z1, z2], _, _ => ⟨[a0, a1, a2, z0, z1, z2], (.cons rfl (.cons rfl (.cons rfl (.cons rfl (.cons rfl (.cons rfl .nil)))))), rfl⟩) snil)
def d14 : DE := ⟨"breaks_cost", ["sums", "weights", "frame", "breaks"], ["sums", "weights", "frame", "breaks", "cost", "start", "stop", "number"], ["sums", "weights", "frame", "breaks", "cost", "start", "stop"], [⟨4, [], [.inl 0, .inl 1, .inl 2, .inl 3]⟩], ⟨4, 8, false, b14⟩, defArgs (top 6), defBody (top 6), defScope (top 6), none, "breaks_cost"⟩
def e14 : DX := ⟨d14, [], []⟩
theorem bd14 : BindersAt e14 := fun K f fd F => (scons (bnd_full F rfl fun kV doc pm an cdv ct us ws h1 h2 => match us, ws, h1, h2 with | [a0, a1, a2, a3], [], _, _ => ⟨[a0, a1, a2, a3], (.cons rfl (.cons rfl (.cons rfl (.cons rfl .nil)))), rfl⟩) snil)
def d15 : DE := ⟨"are_breaks", ["many", "thing"], ["many", "thing", "one", "other"], ["many", "thing"], [⟨2, [], [.inl 0, .inl 1]⟩], ⟨2, 4, false, b15⟩, defArgs (top 12), defBody (top 12), defScope (top 12), none, "are_breaks"⟩
def e15 : DX := ⟨d15, [], []⟩
theorem bd15 : BindersAt e15 := fun K f fd F => (scons (bnd_full F rfl fun kV doc pm an cdv ct us ws h1 h2 => match us, ws, h1, h2 with | [a0, a1], [], _, _ => ⟨[a0, a1], (.cons rfl (.cons rfl .nil)), rfl⟩) snil)
def d16 : DE := ⟨"are_numbers", ["thing"], ["thing", "one"], ["thing"], [⟨1, [], [.inl 0]⟩], ⟨1, 2, false, b16⟩, defArgs (top 11), defBody (top 11), defScope (top 11), none, "are_numbers"⟩
def e16 : DX := ⟨d16, [], []⟩
theorem bd16 : BindersAt e16 := fun K f fd F => (scons (bnd_full F rfl fun kV doc pm an cdv ct us ws h1 h2 => match us, ws, h1, h2 with | [a0], [], _, _ => ⟨[a0], (.cons rfl .nil), rfl⟩) snil)
def d17 : DE := ⟨"are_worths", ["sums", "weights", "frame", "thing"], ["sums", "weights", "frame", "thing", "stop", "start"], ["sums", "weights", "frame", "thing", "stop", "start"], [⟨4, [], [.inl 0, .inl 1, .inl 2, .inl 3]⟩], ⟨4, 6, false, b17⟩, defArgs (top 13), defBody (top 13), defScope (top 13), none, "are_worths"⟩
def e17 : DX := ⟨d17, [], []⟩
theorem bd17 : BindersAt e17 := fun K f fd F => (scons (bnd_full F rfl fun kV doc pm an cdv ct us ws h1 h2 => match us, ws, h1, h2 with | [a0, a1, a2, a3], [], _, _ => ⟨[a0, a1, a2, a3], (.cons rfl (.cons rfl (.cons rfl (.cons rfl .nil)))), rfl⟩) snil)
def d18 : DE := ⟨"_law_right", ["_law_lengths", "_law_weights", "_law_frame_here", "_law_thing"], ["_law_lengths", "_law_weights", "_law_frame_here", "_law_thing", "_law_kept", "_law_found"], ["_law_lengths", "_law_weights", "_law_frame_here", "_law_thing", "_law_kept", "_law_found"], [⟨4, [], [.inl 0, .inl 1, .inl 2, .inl 3]⟩], ⟨4, 6, false, b18⟩, defArgs (top 26), defBody (top 26), defScope (top 26), none, "_law_right"⟩
def e18 : DX := ⟨d18, [], []⟩
theorem bd18 : BindersAt e18 := fun K f fd F => (scons (bnd_full F rfl fun kV doc pm an cdv ct us ws h1 h2 => match us, ws, h1, h2 with | [a0, a1, a2, a3], [], _, _ => ⟨[a0, a1, a2, a3], (.cons rfl (.cons rfl (.cons rfl (.cons rfl .nil)))), rfl⟩) snil)
def d19 : DE := ⟨"_law_is_least", ["_law_lengths", "_law_weights", "_law_frame_here", "_law_thing"], ["_law_lengths", "_law_weights", "_law_frame_here", "_law_thing", "_law_one"], ["_law_lengths", "_law_weights", "_law_frame_here", "_law_thing", "_law_one"], [⟨4, [], [.inl 0, .inl 1, .inl 2, .inl 3]⟩], ⟨4, 5, false, b19⟩, defArgs (top 22), defBody (top 22), defScope (top 22), none, "_law_is_least"⟩
def e19 : DX := ⟨d19, [], []⟩
theorem bd19 : BindersAt e19 := fun K f fd F => (scons (bnd_full F rfl fun kV doc pm an cdv ct us ws h1 h2 => match us, ws, h1, h2 with | [a0, a1, a2, a3], [], _, _ => ⟨[a0, a1, a2, a3], (.cons rfl (.cons rfl (.cons rfl (.cons rfl .nil)))), rfl⟩) snil)
def d20 : DE := ⟨"_law_cost", ["_law_lengths", "_law_weights", "_law_frame_here", "_law_breaks"], ["_law_lengths", "_law_weights", "_law_frame_here", "_law_breaks", "_law_stops", "_law_starts", "_law_number", "_law_start", "_law_stop"], ["_law_lengths", "_law_weights", "_law_frame_here", "_law_breaks", "_law_stops", "_law_starts"], [⟨4, [], [.inl 0, .inl 1, .inl 2, .inl 3]⟩], ⟨4, 9, false, b20⟩, defArgs (top 20), defBody (top 20), defScope (top 20), none, "_law_cost"⟩
def e20 : DX := ⟨d20, [], []⟩
theorem bd20 : BindersAt e20 := fun K f fd F => (scons (bnd_full F rfl fun kV doc pm an cdv ct us ws h1 h2 => match us, ws, h1, h2 with | [a0, a1, a2, a3], [], _, _ => ⟨[a0, a1, a2, a3], (.cons rfl (.cons rfl (.cons rfl (.cons rfl .nil)))), rfl⟩) snil)
def d21 : DE := ⟨"_law_line", ["_law_lengths", "_law_weights", "_law_frame_here", "_law_start", "_law_stop"], ["_law_lengths", "_law_weights", "_law_frame_here", "_law_start", "_law_stop", "_law_signs", "_law_cost_here"], ["_law_lengths", "_law_weights", "_law_frame_here", "_law_start", "_law_stop", "_law_signs", "_law_cost_here"], [⟨5, [], [.inl 0, .inl 1, .inl 2, .inl 3, .inl 4]⟩], ⟨5, 7, false, b21⟩, defArgs (top 19), defBody (top 19), defScope (top 19), none, "_law_line"⟩
def e21 : DX := ⟨d21, [], []⟩
theorem bd21 : BindersAt e21 := fun K f fd F => (scons (bnd_full F rfl fun kV doc pm an cdv ct us ws h1 h2 => match us, ws, h1, h2 with | [a0, a1, a2, a3, a4], [], _, _ => ⟨[a0, a1, a2, a3, a4], (.cons rfl (.cons rfl (.cons rfl (.cons rfl (.cons rfl .nil))))), rfl⟩) snil)
def d22 : DE := ⟨"_law_are_worths", ["_law_lengths", "_law_weights", "_law_frame_here", "_law_thing"], ["_law_lengths", "_law_weights", "_law_frame_here", "_law_thing", "_law_stop", "_law_start", "_law_one"], ["_law_lengths", "_law_weights", "_law_frame_here", "_law_thing", "_law_stop", "_law_start"], [⟨4, [], [.inl 0, .inl 1, .inl 2, .inl 3]⟩], ⟨4, 7, false, b22⟩, defArgs (top 21), defBody (top 21), defScope (top 21), none, "_law_are_worths"⟩
def e22 : DX := ⟨d22, [], []⟩
theorem bd22 : BindersAt e22 := fun K f fd F => (scons (bnd_full F rfl fun kV doc pm an cdv ct us ws h1 h2 => match us, ws, h1, h2 with | [a0, a1, a2, a3], [], _, _ => ⟨[a0, a1, a2, a3], (.cons rfl (.cons rfl (.cons rfl (.cons rfl .nil)))), rfl⟩) snil)
def es : List DX := [e0, e1, e2, e3, e4, e5, e6, e7, e8, e9, e10, e11, e12, e13, e14, e15, e16, e17, e18, e19, e20, e21, e22]
theorem binders : Binders es := (bcons bd0 (bcons bd1 (bcons bd2 (bcons bd3 (bcons bd4 (bcons bd5 (bcons bd6 (bcons bd7 (bcons bd8 (bcons bd9 (bcons bd10 (bcons bd11 (bcons bd12 (bcons bd13 (bcons bd14 (bcons bd15 (bcons bd16 (bcons bd17 (bcons bd18 (bcons bd19 (bcons bd20 (bcons bd21 (bcons bd22 bnil)))))))))))))))))))))))
def gls : List (Str × Val) := [("OVER", (.int 1000))]
def bls : List Str := ["range", "list", "sum", "len", "tuple", "min", "max", "enumerate", "int", "isinstance", "str", "all", "zip", "bool", "repr", "sorted", "set"]
def cs : List ClsS := []
theorem okAll : (es.map DX.d).all (okD (es.map DX.d) gls bls cs) = true := by decide +kernel
theorem tab_eq : tabOf (es.map DX.d) = G := funext fun i => match i with
  | 0 => rfl
  | 1 => rfl
  | 2 => rfl
  | 3 => rfl
  | 4 => rfl
  | 5 => rfl
  | 6 => rfl
  | 7 => rfl
  | 8 => rfl
  | 9 => rfl
  | 10 => rfl
  | 11 => rfl
  | 12 => rfl
  | 13 => rfl
  | 14 => rfl
  | 15 => rfl
  | 16 => rfl
  | 17 => rfl
  | 18 => rfl
  | 19 => rfl
  | 20 => rfl
  | 21 => rfl
  | 22 => rfl
  | _ + 23 => rfl
abbrev R : PySem.W.OpenRow := PySem.W.OpenLaw.row PySem.Challenge.rw_fewbrackets_k42_least_spoilt
abbrev hk : PySem.W.Hook := hookF 4 es gls bls cs
def ob (s : PySem.W.SharedT) : He.AlD := obsFG 4 es gls bls cs (HandSHeadRun.getT s)
theorem ob_eq (s : PySem.W.SharedT) : ob s = hk.obs s.abs := obsFG_eq (HandSHeadRun.getT_eq s)
def loose : List PySem.Str := PP.main.scope.names.filterMap fun q => if q.1 == ("law" : PySem.Str) || q.1 == ("__name__" : PySem.Str) then none else some q.1
theorem run (w : World) : HandSHeadRun.RunEq R (PySem.W.view R.prog [28]) hk ob 6000 loose w := by
  intro os
  kernel_rfl
theorem law_facts (w : World) (mg : Str → Option Value) (fa : Addr) (h : PySem.Heap) (Y : hk.says w h) (GN : h.Ns mainGlobals mg) (hmg : mg ("law" : Str) = some (.ref fa)) (hs : ∀ ns : List Int, ns.length ≤ 63 → Says (callN G 41 0) ns) :
    ∃ (K : PySem.W.Frag) (fd : FuncData) (cl : List Val → Heap → Res Val), K.In h ∧ (∀ (s : Shared) (u : Value), BindsTo s fd ⟨[u], []⟩ [("_law_script", u)]) ∧ (∀ ns : List Int, ns.length ≤ 63 → Says cl ns) ∧
        ∀ base : PySem.Heap, K.In base → base.Ns mainGlobals mg → FnG PP w K mg base 41 fa fd ["_law_script"] cl := by
  obtain ⟨K, X, c⟩ := Y
  rw [← tab_eq] at hs
  obtain ⟨fd, h1, h2⟩ := facts (P := PP) (w := w) (k := 40) (d := e0) (x := "_law_script") okAll binders rfl rfl rfl rfl rfl (fun _ _ _ _ _ _ us hl => match us, hl with | [_], _ => rfl) X GN c hmg
  exact ⟨K, fd, _, X, h1, hs, h2⟩
end M
open PySem PySem.W PySem.Calls PyProof.Rows
theorem PySem.Challenge.cw_fewbrackets_k42_least_spoilt_holds : PySem.Challenge.rw_fewbrackets_k42_least_spoilt.Holds := by
  w_on; o_law
  refine HandSHeadRun.head_any (r := OpenLaw.row PySem.Challenge.rw_fewbrackets_k42_least_spoilt) (q := view (OpenLaw.row PySem.Challenge.rw_fewbrackets_k42_least_spoilt).prog [28]) (H := M.hk) (ob := M.ob) (M := 6000) (loose := M.loose) (d := HandSHeadRun.topDef (OpenLaw.row PySem.Challenge.rw_fewbrackets_k42_least_spoilt).prog 28) (kwd := []) M.ob_eq
    (by kernel_rfl) (fun s => by kernel_rfl) M.run (by kernel_rfl) (by kernel_rfl) (by kernel_rfl) (by rfl) (by first | assumption | decide +kernel) (by decide +kernel) ⟨rfl, rfl, rfl, rfl, rfl, by decide +kernel⟩ ?hw ?hc
  case hw => w_witness2
  case hc =>
    refine M.walk_ofG (l := PySem.Challenge.rw_fewbrackets_k42_least_spoilt) (n := 63) (k := 41) (x := "_law_script") rfl (by decide) (by kernel_rfl) ⟨rfl, by decide, by decide⟩ ?F
    intro w mg fa h Y G hmg0
    have hmg : mg ("law" : PySem.Str) = some (.ref fa) := by
      have e : (HandSHeadRun.topDef (OpenLaw.row PySem.Challenge.rw_fewbrackets_k42_least_spoilt).prog 28).name = ("law" : PySem.Str) := by kernel_rfl
      rw [← e]
      exact hmg0
    exact M.law_facts w mg fa h Y G hmg fun ns hn => M.law_says ns hn
