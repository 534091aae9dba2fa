import PyProof.Rows.All
import Wide.All
import OpenK.AllK
import Wide.FinOn
import HandS.ForMost
import HandS.ForExc
import HandS.Style
import HandS.TupMul
import HandS.TupAny
import HandS.Deep
import HandS.Strs
import HandS.SortInts
import HandS.Flow
import HandS.IsInst
import HandS.Iter
import KE.GoesMore
import HandS.TryOnly
import HandS.DictComp
import HandS.Codes
import KE.RegKIsAll
import PySem.Challenge.RW_copiesowed_k10_whole_heaps_copied
set_option Elab.async false
set_option linter.all false
set_option maxRecDepth 100000
set_option maxHeartbeats 4000000
/-! MPa: the small machine: values, its heap, its results, and what each construct does. -/
namespace MP
open PySem

inductive U where
  | non | bl (b : Bool) | int (i : Int) | str (x : Str) | tup (xs : List U) | ref (n : Nat)
  deriving Inhabited
inductive VO where
  | lst (xs : List U) | frz (xs : List U) | dct (kvs : List (U × U)) | ins (c : Str) (fs : List (Str × U))
  deriving Inhabited
abbrev VH := List VO
abbrev Fs := List (Str × U)
inductive Res (α : Type) where
  | ok (a : α) (h : VH) | exc (c : Str) (fs : Fs) (h : VH) | bad
abbrev M (α : Type) := VH → Res α
def mret {α : Type} (a : α) : M α := fun h => .ok a h
def mbad {α : Type} : M α := fun _ => .bad
def mexc {α : Type} (c : Str) (fs : Fs) : M α := fun h => .exc c fs h
def bnd {α β : Type} (m : M α) (k : α → M β) : M β := fun h =>
  match m h with
  | .ok a h' => k a h'
  | .exc c fs h' => .exc c fs h'
  | .bad => .bad
def ofO {α : Type} (o : Option α) (h : VH) : Res α := match o with
  | some a => .ok a h
  | none => .bad
abbrev Env := List (Option U)
abbrev EM := Env → M U
abbrev TM := Env → M Bool
abbrev AM := Env → M (List U)
inductive Fl where
  | next (η : Env) | ret (u : U) | brk (η : Env) | cont (η : Env)
abbrev SM := Env → M Fl
abbrev GM := U → Env → M Env

mutual
def eqb : U → U → Bool
  | .non, .non => true
  | .bl a, .bl b => a == b
  | .int a, .int b => decide (a = b)
  | .str a, .str b => decide (a = b)
  | .tup a, .tup b => eqbs a b
  | .ref a, .ref b => decide (a = b)
  | _, _ => false
def eqbs : List U → List U → Bool
  | [], [] => true
  | a :: as, b :: bs => eqb a b && eqbs as bs
  | _, _ => false
end
mutual
theorem eqb_self : ∀ a : U, eqb a a = true
  | .non => rfl
  | .bl a => by simp [eqb]
  | .int a => by simp [eqb]
  | .str a => by simp [eqb]
  | .tup a => by rw [eqb]; exact eqbs_self a
  | .ref a => by simp [eqb]
theorem eqbs_self : ∀ a : List U, eqbs a a = true
  | [] => rfl
  | a :: as => by rw [eqbs, eqb_self a, eqbs_self as]; rfl
end
mutual
theorem eq_of_eqb : ∀ a b : U, eqb a b = true → a = b
  | .non, b, h => by cases b <;> first | rfl | (simp [eqb] at h)
  | .bl a, b, h => by cases b <;> simp [eqb] at h; rw [h]
  | .int a, b, h => by cases b <;> simp [eqb] at h; rw [h]
  | .str a, b, h => by cases b <;> simp [eqb] at h; rw [h]
  | .tup a, b, h => by
    cases b <;> simp only [eqb, Bool.false_eq_true] at h
    rw [eq_of_eqbs a _ h]
  | .ref a, b, h => by cases b <;> simp [eqb] at h; rw [h]
theorem eq_of_eqbs : ∀ a b : List U, eqbs a b = true → a = b
  | [], b, h => by cases b <;> first | rfl | (simp [eqbs] at h)
  | a :: as, b, h => by
    cases b <;> simp only [eqbs, Bool.false_eq_true, Bool.and_eq_true] at h
    rw [eq_of_eqb a _ h.1, eq_of_eqbs as _ h.2]
end
instance : DecidableEq U := fun a b => if h : eqb a b = true then .isTrue (eq_of_eqb a b h) else .isFalse fun e => h (e ▸ eqb_self a)
instance : DecidableEq VO := fun a b => match a, b with
  | .lst x, .lst y => if h : x = y then .isTrue (by rw [h]) else .isFalse fun e => h (by injection e)
  | .frz x, .frz y => if h : x = y then .isTrue (by rw [h]) else .isFalse fun e => h (by injection e)
  | .dct x, .dct y => if h : x = y then .isTrue (by rw [h]) else .isFalse fun e => h (by injection e)
  | .ins c x, .ins d y => if h : c = d ∧ x = y then .isTrue (by rw [h.1, h.2]) else .isFalse fun e => h (by injection e with e1 e2; exact ⟨e1, e2⟩)
  | .lst _, .frz _ | .lst _, .dct _ | .lst _, .ins _ _ | .frz _, .lst _ | .frz _, .dct _ | .frz _, .ins _ _ | .dct _, .lst _ | .dct _, .frz _ | .dct _, .ins _ _ | .ins _ _, .lst _ | .ins _ _, .frz _ | .ins _ _, .dct _ => .isFalse fun e => by cases e

/-! ### values -/
def mapO {α β : Type} (f : α → Option β) : List α → Option (List β)
  | [] => some []
  | a :: as => match f a, mapO f as with
    | some b, some bs => some (b :: bs)
    | _, _ => none
def lstOf (h : VH) (u : U) : Option (List U) := match u with
  | .ref n => match h[n]? with
    | some (.lst xs) => some xs
    | some (.frz xs) => some xs
    | _ => none
  | _ => none
def seqOf (h : VH) (u : U) : Option (List U) := match u with
  | .tup xs => some xs
  | _ => lstOf h u
/-- as data -/
def toD : Nat → VH → U → Option PyData
  | 0, _, _ => none
  | n + 1, h, u => match u with
    | .non => some .none
    | .bl b => some (.bool b)
    | .int i => some (.int i)
    | .str x => some (.str x)
    | .tup xs => (mapO (toD n h) xs).map .tuple
    | .ref r => match h[r]? with
      | some (.lst xs) => (mapO (toD n h) xs).map .list
      | some (.frz xs) => (mapO (toD n h) xs).map .list
      | _ => none
def eqD (h : VH) (u v : U) : Option Bool := match toD 40 h u, toD 40 h v with
  | some d, some e => if (SeqAt.shaped d && SeqAt.shaped e) = true then some (PyData.eqv d e) else none
  | _, _ => none
def flatU : U → Bool
  | .non => true
  | .bl _ => true
  | .int _ => true
  | .str _ => true
  | _ => false
def eqF : U → U → Bool
  | .non, .non => true
  | .bl a, .bl b => a == b
  | .bl a, .int b => (if a then 1 else 0) == b
  | .int a, .bl b => a == (if b then 1 else 0)
  | .int a, .int b => a == b
  | .str a, .str b => a == b
  | _, _ => false
def eqU (u v : U) : M Bool := fun h =>
  if (flatU u && flatU v) = true then .ok (eqF u v) h else
  match eqD h u v with
  | some b => .ok b h
  | none => .bad

/-! ### operators -/
abbrev O2 := U → U → M U
def opI (f : Int → Int → Option U) : O2 := fun u v => match u, v with
  | .int i, .int j => match f i j with
    | some w => mret w
    | none => mbad
  | _, _ => mbad
def newL (xs : List U) : M U := fun h => .ok (.ref h.length) (h ++ [.lst xs])
def addU : O2 := fun u v => match u, v with
  | .int i, .int j => mret (.int (i + j))
  | .str x, .str y => if x.length + y.length ≤ sizeLine then mret (.str (x ++ y)) else mbad
  | .tup xs, .tup ys => if xs.length + ys.length ≤ sizeLine then mret (.tup (xs ++ ys)) else mbad
  | .ref a, .ref b => fun h => match h[a]?, h[b]? with
    | some (.lst xs), some (.lst ys) => if xs.length + ys.length ≤ sizeLine then newL (xs ++ ys) h else .bad
    | _, _ => .bad
  | _, _ => mbad
def subU : O2 := opI fun i j => some (.int (i - j))
def mulU : O2 := fun u v => match u, v with
  | .int i, .int j => if (-(2 ^ 64) < i ∧ i < 2 ^ 64) ∨ (-(2 ^ 64) < j ∧ j < 2 ^ 64) then mret (.int (i * j)) else mbad
  | .ref a, .int k => fun h => match h[a]? with
    | some (.lst xs) => if -(2 ^ 63) ≤ k ∧ k < 2 ^ 63 ∧ xs.length * k.toNat ≤ sizeLine then newL (List.replicate k.toNat xs).flatten h else .bad
    | _ => .bad
  | .tup xs, .int k => if xs ≠ [] ∧ 1 ≤ k ∧ k ≤ 1000 ∧ xs.length ≤ 1000 then mret (.tup (List.replicate k.toNat xs).flatten) else mbad
  | .str x, .int k => if 1 ≤ x.length ∧ 1 ≤ k ∧ x.length * k.toNat ≤ 1000000 then mret (.str ⟨(List.replicate k.toNat x.cps.toList).flatten.toArray⟩) else mbad
  | _, _ => mbad
def fdivU : O2 := opI fun i j => if j ≠ 0 ∧ j.natAbs < 1073741824 then some (.int (i.fdiv j)) else none
def modU : O2 := opI fun i j => if j ≠ 0 then some (.int (i.fmod j)) else none
def powU : O2 := opI fun i j => if 0 ≤ j ∧ j ≤ 1000000 ∧ i.natAbs < 2 ^ 64 then some (.int (i ^ j.toNat)) else none
def negU (u : U) : M U := match u with
  | .int i => mret (.int (-i))
  | _ => mbad
def cmpI (f : Int → Int → Bool) : O2 := opI fun i j => some (.bl (f i j))
def ltU : O2 := cmpI fun i j => decide (i < j)
def leU : O2 := cmpI fun i j => decide (i ≤ j)
def gtU : O2 := cmpI fun i j => decide (j < i)
def geU : O2 := cmpI fun i j => decide (j ≤ i)
def isNU : O2 := fun u v => match v with
  | .non => mret (.bl (decide (u = .non)))
  | .bl b => match u with
    | .bl a => mret (.bl (decide (a = b)))
    | _ => mbad
  | _ => mbad
def notNU : O2 := fun u v => bnd (isNU u v) fun r => match r with
  | .bl b => mret (.bl (!b))
  | _ => mbad
/-- x in a list's items -/
def inL (x : U) (h : VH) (o : Option (List U)) : Res Bool := match o with
  | some xs => if (flatU x && xs.all flatU) = true then .ok (xs.any fun z => eqF z x) h else
    match toD 40 h x, mapO (toD 40 h) xs with
    | some d, some ds => if (SeqAt.shaped d && SeqAt.shaped (.list ds)) = true then .ok (ds.any fun z => PyData.eqv z d) h else .bad
    | _, _ => .bad
  | none => .bad
/-- x in y -/
def inB (x y : U) : M Bool := fun h => match y with
  | .str z => match x with
    | .str w => match w.cps.toList with
      | [c] => .ok (decide (c ∈ z.cps.toList)) h
      | _ => .bad
    | _ => .bad
  | .tup xs => if (flatU x && xs.all flatU) = true then .ok (xs.any fun z => eqF z x) h else .bad
  | .ref n => match h[n]? with
    | some (.dct _) => .bad
    | _ => inL x h (lstOf h (.ref n))
  | _ => .bad
def inU : O2 := fun u v => bnd (inB u v) fun b => mret (.bl b)
def notInU : O2 := fun u v => bnd (inB u v) fun b => mret (.bl (!b))
def truB (u : U) : M Bool := fun h => match u with
  | .non => .ok false h
  | .bl b => .ok b h
  | .int i => .ok (i != 0) h
  | .str x => if x.length ≤ sizeLine then .ok (x.length != 0) h else .bad
  | .tup xs => .ok (!xs.isEmpty) h
  | .ref n => match h[n]? with
    | some (.lst xs) => .ok (!xs.isEmpty) h
    | some (.frz xs) => .ok (!xs.isEmpty) h
    | _ => .bad

/-! ### subscripts, attributes -/
def getU : O2 := fun o i => fun h => match o, i with
  | .tup xs, .int k => ofO (L2.atI xs k) h
  | .str z, .int k => if z.length ≤ sizeLine then ofO ((L2.atI z.cps.toList k).map fun c => .str ⟨#[c]⟩) h else .bad
  | .ref n, k => match h[n]? with
    | some (.dct kvs) => ofO (kvs.lookup k) h
    | some (.lst xs) => match k with
      | .int j => ofO (L2.atI xs j) h
      | _ => .bad
    | some (.frz xs) => match k with
      | .int j => ofO (L2.atI xs j) h
      | _ => .bad
    | _ => .bad
  | _, _ => .bad
/-- a dict's entry stored -/
def dput (k v : U) : List (U × U) → List (U × U)
  | [] => [(k, v)]
  | p :: r => if p.1 = k then (p.1, v) :: r else p :: dput k v r
def isKey : Nat → U → Bool
  | _, .non => true
  | _, .int _ => true
  | _, .str _ => true
  | n + 1, .tup xs => xs.all (isKey n)
  | _, _ => false
def setU (o i v : U) : M Unit := fun h => match o with
  | .ref n => match h[n]? with
    | some (.lst xs) => match i with
      | .int k => match L2.ixN xs.length k with
        | some j => .ok () (h.set n (.lst (xs.set j v)))
        | none => .bad
      | _ => .bad
    | _ => .bad
  | _ => .bad
def cutU {α : Type} (xs : List α) (lo hi : Option Int) : List α := (xs.drop (HT.sIx xs.length 0 lo)).take (HT.sIx xs.length xs.length hi - HT.sIx xs.length 0 lo)
def slU (o : U) (lo hi : Option Int) : M U := fun h => match o with
  | .tup xs => .ok (.tup (cutU xs lo hi)) h
  | .ref n => match lstOf h (.ref n) with
    | some xs => newL (cutU xs lo hi) h
    | none => .bad
  | _ => .bad
def putF (f : Str) (v : U) : Fs → Fs
  | [] => [(f, v)]
  | (g, x) :: r => if g = f then (g, v) :: r else (g, x) :: putF f v r
def fldU (cs : List Str) (f : Str) (o : U) : M U := fun h => match o with
  | .ref n => match h[n]? with
    | some (.ins c fs) => if c ∈ cs then (match fs.lookup f with
      | some v => .ok v h
      | none => .bad) else .bad
    | _ => .bad
  | _ => .bad
def setFldU (cs : List Str) (f : Str) (o v : U) : M Unit := fun h => match o with
  | .ref n => match h[n]? with
    | some (.ins c fs) => if c ∈ cs ∧ fs.length < 1000 then .ok () (h.set n (.ins c (putF f v fs))) else .bad
    | _ => .bad
  | _ => .bad

/-! ### built-in functions -/
def lenU (us : List U) : M U := fun h => match us with
  | [u] => match u with
    | .str x => if x.length ≤ sizeLine then .ok (.int x.length) h else .bad
    | .ref n => match h[n]? with
      | some (.dct _) => .bad
      | _ => match lstOf h (.ref n) with
        | some xs => .ok (.int xs.length) h
        | none => .bad
    | .tup xs => .ok (.int xs.length) h
    | _ => .bad
  | _ => .bad
def intF (us : List U) : M U := match us with
  | [.int i] => mret (.int i)
  | [.bl b] => mret (.int (if b then 1 else 0))
  | _ => mbad
def boolF (us : List U) : M U := match us with
  | [u] => bnd (truB u) fun b => mret (.bl b)
  | _ => mbad
def tupF (us : List U) : M U := fun h => match us with
  | [u] => match seqOf h u with
    | some xs => .ok (.tup xs) h
    | none => .bad
  | _ => .bad
def listF (us : List U) : M U := fun h => match us with
  | [u] => match seqOf h u with
    | some xs => newL xs h
    | none => match u with
      | .ref n => match h[n]? with
        | some (.dct _) => .bad
        | _ => .bad
      | _ => .bad
  | _ => .bad
def toI : U → Option Int
  | .int i => some i
  | _ => none
def toBl : U → Option Bool
  | .bl b => some b
  | _ => none
def toS : U → Option Str
  | .str x => some x
  | _ => none
def intsOf (h : VH) (u : U) : Option (List Int) := (lstOf h u).bind (mapO toI)
def insI (x : Int) : List Int → List Int
  | [] => [x]
  | y :: r => if x ≤ y then x :: y :: r else y :: insI x r
def sortI : List Int → List Int
  | [] => []
  | x :: r => insI x (sortI r)
def sortedF (us : List U) : M U := fun h => match us with
  | [u] => match intsOf h u with
    | some ns => newL ((sortI ns).map .int) h
    | none => .bad
  | _ => .bad
def sumF (us : List U) : M U := fun h => match us with
  | [u] => match intsOf h u with
    | some ns => .ok (.int ns.sum) h
    | none => .bad
  | _ => .bad
def maxI : List Int → Int
  | [] => 0
  | x :: r => r.foldl (fun a b => if a < b then b else a) x
def maxF (us : List U) : M U := fun h => match us with
  | [u, v] => match u, v with
    | .int i, .int j => .ok (.int (if j > i then j else i)) h
    | _, _ => .bad
  | [u] => match intsOf h u with
    | some ns => if 0 < ns.length then .ok (.int (maxI ns)) h else .bad
    | none => .bad
  | _ => .bad
def minF (us : List U) : M U := fun h => match us with
  | [.int i, .int j] => .ok (.int (if j < i then j else i)) h
  | _ => .bad
def absF (us : List U) : M U := match us with
  | [.int i] => mret (.int (if i < 0 then -i else i))
  | _ => mbad
def blsOf (h : VH) (u : U) : Option (List Bool) := (lstOf h u).bind (mapO toBl)
def allF (us : List U) : M U := fun h => match us with
  | [u] => match blsOf h u with
    | some bs => .ok (.bl (bs.all id)) h
    | none => .bad
  | _ => .bad
def anyF (us : List U) : M U := fun h => match us with
  | [u] => match blsOf h u with
    | some bs => .ok (.bl (bs.any id)) h
    | none => .bad
  | _ => .bad
/-- isinstance(u, c) -/
def isC (kc : List Str) (c : Str) (u : U) (h : VH) : Option Bool := match u with
  | .non => some false
  | .bl _ => some (decide (c = "bool") || decide (c = "int"))
  | .int _ => some (decide (c = "int"))
  | .str _ => some (decide (c = "str"))
  | .tup _ => some (decide (c = "tuple"))
  | .ref n => match h[n]? with
    | some (.lst _) => some (decide (c = "list"))
    | some (.frz _) => some (decide (c = "list"))
    | some (.dct _) => none
    | some (.ins d _) => if d ∈ kc then some (decide (c = d)) else none
    | none => none
def isCs (kc : List Str) (cs : List Str) (u : U) (h : VH) : Option Bool := match cs with
  | [] => some false
  | c :: r => match isC kc c u h with
    | some true => some true
    | some false => isCs kc r u h
    | none => none
def isF (kc : List Str) (cs : List Str) (u : U) : M U := fun h => match isCs kc cs u h with
  | some b => .ok (.bl b) h
  | none => .bad

/-! ### methods of built-in types: the receiver, the name, the arguments -/
def idxF (x : U) : List U → Option Nat
  | [] => none
  | y :: r => if eqF y x = true then some 0 else (idxF x r).map (· + 1)
def dpop (k : U) : List (U × U) → List (U × U)
  | [] => []
  | p :: r => if p.1 = k then r else p :: dpop k r
/-- receiver at n (a list) -/
def mLst (m : Str) (n : Nat) (xs : List U) (us : List U) : M U := fun h =>
  if m = "append" then (match us with
    | [u] => if xs.length < sizeLine then .ok .non (h.set n (.lst (xs ++ [u]))) else .bad
    | _ => .bad)
  else if m = "extend" then (match us with
    | [u] => match u with
      | .ref b => match h[b]? with
        | some (.lst ys) => if xs.length + ys.length ≤ sizeLine then .ok .non (h.set n (.lst (xs ++ ys))) else .bad
        | _ => .bad
      | _ => .bad
    | _ => .bad)
  else if m = "pop" then (match us with
    | [] => match xs[xs.length - 1]? with
      | some y => .ok y (h.set n (.lst xs.dropLast))
      | none => .bad
    | _ => .bad)
  else if m = "index" then (match us with
    | [u] => if (flatU u && xs.all flatU) = true then (match idxF u xs with
      | some j => .ok (.int j) h
      | none => .bad) else .bad
    | _ => .bad)
  else .bad
/-- receiver at n (a dict) -/
def mDct (m : Str) (n : Nat) (kvs : List (U × U)) (us : List U) : M U := fun h =>
  if m = "get" then (match us with
    | [k] => if isKey 7 k = true then .ok ((kvs.lookup k).getD .non) h else .bad
    | [k, d] => if isKey 7 k = true then .ok ((kvs.lookup k).getD d) h else .bad
    | _ => .bad)
  else if m = "setdefault" then (match us with
    | [k, d] => if (isKey 7 k && decide (kvs.length < sizeLine)) = true then (match kvs.lookup k with
      | some v => .ok v h
      | none => .ok d (h.set n (.dct (dput k d kvs)))) else .bad
    | _ => .bad)
  else if m = "pop" then (match us with
    | [k] => if isKey 7 k = true then (match kvs.lookup k with
      | some v => .ok v (h.set n (.dct (dpop k kvs)))
      | none => .bad) else .bad
    | [k, d] => if isKey 7 k = true then (match kvs.lookup k with
      | some v => .ok v (h.set n (.dct (dpop k kvs)))
      | none => .ok d h) else .bad
    | _ => .bad)
  else .bad
def mStr (m : Str) (x : Str) (us : List U) : M U := fun h =>
  if m = "join" then (match us with
    | [u] => match (seqOf h u).bind (mapO toS) with
      | some ss => if (ss.map (·.length)).sum + ss.length * x.length ≤ 16777216 then .ok (.str (Txt.join x ss)) h else .bad
      | none => .bad
    | _ => .bad)
  else .bad
def mTup (m : Str) (xs : List U) (us : List U) : M U := fun h =>
  if m = "index" then (match us with
    | [u] => if (flatU u && xs.all flatU) = true then (match idxF u xs with
      | some j => .ok (.int j) h
      | none => .bad) else .bad
    | _ => .bad)
  else .bad
end MP
/-! MPt: tuples that are known to the object (no dict of their own), strings times ints. -/
namespace MP
open PySem L2 PySem.Spec PyProof.Rows HT

def tupO (its : List Value) : Obj := { cls := .type "tuple", data := .seq its.toArray }
/-- at a a tuple of vs that has no dict -/
def SqN (K : PySem.W.Frag) (H : Hp) (a : Addr) (vs : List V) : Prop := (∃ o, H a = some (.frz o (.tup vs)) ∧ o.dict = none) ∨
  ∃ (o : Obj) (its : Array Value) (n : Nat), K.lookup a = some o ∧ o.dict = none ∧ o.cls = .type "tuple" ∧ o.data = .seq its n ∧ its.size ≤ sizeLine ∧ Vals vs its.toList
theorem SqN.sqT {K : PySem.W.Frag} {H : Hp} {a : Addr} {vs : List V} (h : SqN K H a vs) : SqT K H a vs := by
  rcases h with ⟨o, h, _⟩ | ⟨o, its, n, h1, _, h2, h3, h4, h5⟩
  · exact .inl (.inr ⟨o, h⟩)
  · exact .inr ⟨o, its, n, h1, h2, h3, h4, h5⟩
/-- a new tuple -/
def NewT (vs : List V) (Q : VK) (H : Hp) : Prop := ∀ p o, H p = none → o.dict = none → Q (.ref p) (upd H p (.frz o (.tup vs)))
section
variable {X : Cx} {pins : List (Addr × Obj)} {σ : L2.St} {H : Hp} {s : Shared}
theorem newT_ok {vs : List V} {its : List Value} {Q : VK} {t' : Nat} (I : Inv X pins σ H s) (hv : Vals vs its) (hz : vs.length ≤ sizeLine) (q : NewT vs Q H) :
    EP X pins σ Q (.ref s.heap.objs.size) { s with heap := s.heap.push (tupO its), toks := t' } := by
  have hg : (s.heap.push (tupO its)).get? s.heap.objs.size = some (tupO its) := Heap.get?_push_size _ rfl
  refine ⟨.ref s.heap.objs.size, _, I.laid (t' := t') (o := .frz (tupO its) (.tup vs)) (fun b ob q => Heap.get?_push_of_some _ q) (Nat.le_refl _) ?_, rfl, q _ (tupO its) (I.hok.fresh (Nat.le_refl _)) rfl⟩
  exact ⟨hg, hz, its, hv, ⟨_, hg, rfl, _, rfl⟩⟩
end
section
variable {X : Cx} {es : List Expr} {t : TA} {pos : Pos}
def tTupN (t : TA) : TE := fun σ H Q => t σ H fun xs H1 => xs.length ≤ sizeLine ∧ NewT xs Q H1
theorem pe_tupN {x1} (h : PA X es t) : PE X (.Tuple es x1 pos) (tTupN t) := by
  refine ⟨fun pins s σ H Q I hq => ?_⟩
  refine wpAny_Tuple_spliced (thn (h.run pos pins s σ H _ I hq) fun us s1 ⟨xs, H1, I1, r, z, q⟩ => ⟨by rw [← r.length]; exact z, ?_⟩)
  exact newT_ok (t' := s1.toks) I1 r z q
theorem call_tupleN : CallR X (.type "tuple") (fun xs H Q => ∃ p ys, xs = [.ref p] ∧ ((SqL X.K H p ys ∧ NewT ys Q H) ∨ (SqT X.K H p ys ∧ Q (.ref p) H))) := by
  intro pins s σ H xs us Q I r h
  obtain ⟨p, ys, rfl, h⟩ := h
  obtain ⟨u, rfl, rx⟩ := vals1 r
  cases rx
  rcases h with ⟨hq, q⟩ | ⟨hq, q⟩
  · obtain ⟨its, r', pl, hz⟩ := I.list hq
    have hlen := r'.length
    refine call_tuple_list pl.isList (fun h' kp => ?_) (by simp only [List.size_toArray] <;> omega)
    have I1 : Inv X pins σ H { s with heap := h' } := I.kept (t' := s.toks) kp
    exact newT_ok (t' := s.toks) I1 r' hz q
  · obtain ⟨its, r', pl, hz⟩ := I.tuple hq
    exact call_tuple_same pl ⟨.ref p, H, I, rfl, q⟩
def rCatN (K : PySem.W.Frag) : R2 := fun x y H Q => ∃ a b xs ys, x = .ref a ∧ y = .ref b ∧ SqT K H a xs ∧ SqT K H b ys ∧ xs.length + ys.length ≤ sizeLine ∧
  (xs = [] → Q (.ref b) H) ∧ (xs ≠ [] → ys = [] → Q (.ref a) H) ∧ (xs ≠ [] → ys ≠ [] → NewT (xs ++ ys) Q H)
theorem op_catN : OpR X (binaryOp .Add) (rCatN X.K) := by
  intro pins s σ H x y v u Q I rx ry h
  obtain ⟨a, b, xs, ys, rfl, rfl, ha, hb, hz, q0, q1, q2⟩ := h
  cases rx
  cases ry
  obtain ⟨its, r1, p1, _⟩ := I.tuple ha
  obtain ⟨its2, r2, p2, _⟩ := I.tuple hb
  by_cases hx : xs = []
  · subst hx
    cases r1
    exact cat_tup0 p1 p2 ⟨.ref b, H, I, rfl, q0 rfl⟩
  · refine HT.cat_tup p1 p2 (fun z => hx (r1.nil_iff.mp z)) (fun z => ⟨.ref a, H, I, rfl, q1 hx (r2.nil_iff.mp z)⟩) (fun z => ?_) (by rw [← r1.length, ← r2.length]; exact hz)
    exact newT_ok (t' := s.toks) I (r1.append r2) (by rw [List.length_append]; exact hz) (q2 hx fun w => z (r2.nil_iff.mpr w))
def rSlN (K : PySem.W.Frag) : V → Option Int → Option Int → Hp → VK → Prop := fun x lo hi H Q => ∃ a xs, x = .ref a ∧ SqT K H a xs ∧
  (HT.sIx xs.length 0 lo = 0 ∧ HT.sIx xs.length xs.length hi = xs.length → Q (.ref a) H) ∧ (¬ (HT.sIx xs.length 0 lo = 0 ∧ HT.sIx xs.length xs.length hi = xs.length) → NewT (cutV xs lo hi) Q H)
theorem sl_tupN : SlR X (rSlN X.K) := by
  intro pins s σ H x v vl vu lo hi sl Q I rx hs pl pu h
  obtain ⟨a, xs, rfl, hx, q1, q2⟩ := h
  cases rx
  obtain ⟨its, r, ht, hz⟩ := I.tuple hx
  have hlen : its.toArray.size = xs.length := by rw [List.size_toArray]; exact r.length.symm
  by_cases hw : HT.sIx xs.length 0 lo = 0 ∧ HT.sIx xs.length xs.length hi = xs.length
  · refine ⟨"tuple", _, PyProof.Rows.slot_tuple_getitem.lookup, ht.typeIs, ?_⟩
    exact getItem_tuple_whole ht hs pl pu (by rw [hlen]; exact hw) ⟨.ref a, H, I, rfl, q1 hw⟩
  · refine ⟨"tuple", _, PyProof.Rows.slot_tuple_getitem.lookup, ht.typeIs, ?_⟩
    refine HT.getItem_tuple_cut ht hs pl pu (by rw [hlen]; exact hw) ?_ (by rw [hlen]; exact hz)
    rw [hlen]
    exact newT_ok (t' := s.toks) I ((r.drop (HT.sIx xs.length 0 lo)).take (HT.sIx xs.length xs.length hi - HT.sIx xs.length 0 lo)) (Nat.le_trans (cutV_length xs lo hi) hz) (q2 hw)
theorem tuple_mul1 (l : Addr) (items : Array Value) (n : Nat) (dd : Option Addr) (sl : Array (Option Value)) (u : Tok) :
    Meets (Builtin.«tuple.__mul__» ⟨[.ref l, .int 1 u], []⟩) (fun _ R s => s.heap.get? l = some { cls := .type "tuple", dict := dd, data := .seq items n, slots := sl } ∧ R (.ok (.ret (Value.ref l))) s) :=
  .of_wp fun prog w A R s h => by
    obtain ⟨hp, g, d, tk, os⟩ := s
    obtain ⟨hl, h⟩ := h
    have f1 := AutoSeq1.idx_int
    have c1 : (items.isEmpty || (1 : Int) == 1) = true := by simp
    wp_walk using wpAny_loadPart' hl
    repeat (first
      | (refine wpAny_ite_true (decide_eq_true (by rw [c1])) ?_; wp_walk using wpAny_loadPart' hl)
      | (refine wpAny_ite_true c1 ?_; wp_walk using wpAny_loadPart' hl))
    exact ⟨_, rfl, h⟩
def rRepN (K : PySem.W.Frag) : R2 := fun x y H Q => ∃ l k xs, x = .ref l ∧ y = .int k ∧ SqT K H l xs ∧ xs ≠ [] ∧ 1 ≤ k ∧ k ≤ 1000 ∧ xs.length ≤ 1000 ∧ (k = 1 → Q (.ref l) H) ∧ (k ≠ 1 → NewT (List.replicate k.toNat xs).flatten Q H)
theorem op_repN : OpR X (binaryOp .Mult) (rRepN X.K) := by
  intro pins s σ H x y v u Q I rx ry h
  obtain ⟨l, k, xs, rfl, rfl, hT, hne, h1, h2, hz, q1, q⟩ := h
  cases rx
  obtain ⟨t, rfl⟩ := ry
  obtain ⟨its, r, ⟨⟨cls, dd, data, sl⟩, ho, hc, n, hd⟩, hs⟩ := I.tuple hT
  simp only at hc hd
  subst hc hd
  have hle : its.length = xs.length := r.length.symm
  by_cases hk : k = 1
  · subst hk
    refine wpAny_binaryOp_repeat_ref (T := "tuple") (U := "int") (by decide) ⟨_, ho, rfl⟩ (fun s' => typeIs_int s' 1 t) noFill_tuple_mul F.fills_int_mul F.slot_int_rmul repeat_tuple F.slot_int_index.lookup
      (call_meets F.slot_int_rmul (typeIs_int s 1 t) F.entry_int_rmul (F.args_int_rmul_2 _ _) (int_rmul_tuple 1 t l its.toArray n dd sl)
        ⟨ho, rfl, ⟨_, ho, rfl⟩, call_meets F.slot_tuple_mul ⟨_, ho, rfl⟩ F.entry_tuple_mul (F.args_tuple_mul_2 _ _) (tuple_mul1 l its.toArray n dd sl t) ⟨ho, ⟨.ref l, H, I, rfl, q1 rfl⟩⟩⟩)
  have hn : its ≠ [] := fun e => hne (by
    rw [e] at hle
    exact List.eq_nil_of_length_eq_zero hle.symm)
  have hi : its.toArray.isEmpty = false := by
    cases its with
    | nil => exact absurd rfl hn
    | cons a b => rfl
  have hsz0 : its.toArray.size = xs.length := by rw [List.size_toArray, hle]
  have hm : ((its.toArray.size : Nat) : Int) * k ≤ 1000000 := by
    rw [hsz0]
    have a1 : ((xs.length : Nat) : Int) * k ≤ 1000 * k := Int.mul_le_mul_of_nonneg_right (by omega) (by omega)
    omega
  have flen : (List.replicate k.toNat its).flatten.length ≤ sizeLine := by
    rw [PyProof.Rows.lm_len_rep_flat, hle, sizeLine_eq]
    have a1 : k.toNat * xs.length ≤ 1000 * 1000 := Nat.mul_le_mul (by omega) hz
    omega
  have c0 : (decide (k < -(2 ^ 63)) || decide (k ≥ 2 ^ 63)) = false := by
    rw [decide_eq_false (by omega), decide_eq_false (by omega)] <;> rfl
  have c1 : (its.toArray.isEmpty || k == 1) = false := by
    rw [hi, Bool.false_or]
    exact beq_eq_false_iff_ne.mpr (by omega)
  have c2 : (decide (k ≤ 0) || its.toArray.isEmpty) = false := by
    rw [hi, Bool.or_false]
    exact decide_eq_false (by omega)
  have c4 : Builtin.Tuple.tupleTooMany (((its.toArray.size : Nat) : Int) * k) = false := by
    unfold Builtin.Tuple.tupleTooMany
    rw [sizeLine_eq]
    exact decide_eq_false (by omega)
  refine wpAny_binaryOp_repeat_ref (T := "tuple") (U := "int") (by decide) ⟨_, ho, rfl⟩ (fun s' => typeIs_int s' k t) noFill_tuple_mul F.fills_int_mul F.slot_int_rmul repeat_tuple F.slot_int_index.lookup
    (call_meets F.slot_int_rmul (typeIs_int s k t) F.entry_int_rmul (F.args_int_rmul_2 _ _) (int_rmul_tuple k t l its.toArray n dd sl)
      ⟨ho, rfl, ⟨_, ho, rfl⟩, call_meets F.slot_tuple_mul ⟨_, ho, rfl⟩ F.entry_tuple_mul (F.args_tuple_mul_2 _ _) (tuple_mulW l its.toArray n dd sl k t c0 c1 c2 (by omega) c4 (by rw [size_rep, List.size_toArray]; exact flen)) ⟨ho, ?_⟩⟩)
  rw [size_rep]
  exact newT_ok (t' := s.toks) I (r.rep k.toNat) (by rw [PyProof.Rows.lm_len_rep_flat, sizeLine_eq]; have a1 : k.toNat * xs.length ≤ 1000 * 1000 := Nat.mul_le_mul (by omega) hz; omega) (q hk)
/-- a text times an int -/
def rRepS : R2 := fun x y H Q => ∃ z k, x = .str z ∧ y = .int k ∧ 1 ≤ z.length ∧ 1 ≤ k ∧ z.length * k.toNat ≤ 1000000 ∧ Q (.str ⟨(List.replicate k.toNat z.cps.toList).flatten.toArray⟩) H
theorem foldl_repA (z : Array Nat) (m : Nat) : ∀ acc : Array Nat, (List.replicate m z).foldl (fun a b => a ++ b) acc = acc ++ (List.replicate m z.toList).flatten.toArray := by
  induction m with
  | zero => intro acc; simp
  | succ m ih =>
    intro acc
    rw [List.replicate_succ, List.replicate_succ, List.foldl_cons, ih, List.flatten_cons, Array.append_assoc]
    congr 1
    apply Array.ext'
    simp
theorem op_repS : OpR X (binaryOp .Mult) rRepS := by
  intro pins s σ H x y v u Q I rx ry h
  obtain ⟨z, k, rfl, rfl, h1, h2, h3, q⟩ := h
  obtain ⟨t, rfl⟩ := rx
  obtain ⟨t', rfl⟩ := ry
  have hk : k.toNat ≤ 1000000 := by
    have : 1 * k.toNat ≤ z.length * k.toNat := Nat.mul_le_mul_right _ h1
    omega
  have hz : z.length ≤ 1000000 := by
    have : z.length * 1 ≤ z.length * k.toNat := Nat.mul_le_mul_left _ (by omega)
    omega
  refine PySem.P.mul_str (by rw [decide_eq_false (by omega), decide_eq_false (by omega)] <;> rfl) (fun _ _ => ?_) (fun _ _ => ?_) ?_
  · have : (1000000 : Int) ≤ (2 ^ 63 - 1) / k := by
      rw [Int.le_ediv_iff_mul_le (by omega)]
      omega
    omega
  · unfold Builtin.Str.tooLong
    rw [sizeLine_eq]
    exact decide_eq_false (by omega)
  · rw [if_neg (by omega)]
    by_cases hk1 : k = 1
    · subst hk1
      rw [if_pos (by simp)]
      have e : (⟨(List.replicate (1 : Int).toNat z.cps.toList).flatten.toArray⟩ : Str) = z := by
        show (⟨(List.replicate 1 z.cps.toList).flatten.toArray⟩ : Str) = z
        simp
      rw [e] at q
      exact ⟨V.str z, H, I, ⟨t, rfl⟩, q⟩
    · rw [if_neg (by
        have a1 : (k == 1) = false := beq_eq_false_iff_ne.mpr hk1
        have a2 : (z.length == 0) = false := beq_eq_false_iff_ne.mpr (by omega)
        rw [a1, a2]
        exact Bool.false_ne_true)]
      have e := foldl_repA z.cps k.toNat #[]
      have e2 : (#[] : Array Nat) ++ (List.replicate k.toNat z.cps.toList).flatten.toArray = (List.replicate k.toNat z.cps.toList).flatten.toArray := by simp
      rw [e, e2]
      refine ⟨?_, ⟨V.str _, H, I.tok _, ⟨_, rfl⟩, q⟩⟩
      show (List.replicate k.toNat z.cps.toList).flatten.toArray.size ≤ sizeLine
      rw [List.size_toArray, PyProof.Rows.lm_len_rep_flat, sizeLine_eq]
      have : z.cps.toList.length = z.length := by rw [Array.length_toList]; rfl
      rw [this, Nat.mul_comm]
      omega
end
end MP
/-! MPb: how the small machine's values and heap stand in the layer's abstract heap. -/
namespace MP
open PySem L2

abbrev Rho := List Addr
section
variable (K : PySem.W.Frag) (mg : Str → Option Value)
mutual
def RepV (ρ : Rho) (H : Hp) : U → V → Prop
  | .non, v => v = .non
  | .bl b, v => v = .bl b
  | .int i, v => v = .int i
  | .str x, v => v = .str x
  | .tup us, v => ∃ a vs, v = .ref a ∧ SqN K H a vs ∧ RepVs ρ H us vs
  | .ref n, v => ∃ a, ρ[n]? = some a ∧ v = .ref a
def RepVs (ρ : Rho) (H : Hp) : List U → List V → Prop
  | [], vs => vs = []
  | u :: us, vs => ∃ v r, vs = v :: r ∧ RepV ρ H u v ∧ RepVs ρ H us r
end
def RepFs (ρ : Rho) (H : Hp) : Fs → List (Str × V) → Prop
  | [], vs => vs = []
  | p :: ps, vs => ∃ v r, vs = (p.1, v) :: r ∧ RepV K ρ H p.2 v ∧ RepFs ρ H ps r
/-- a dict: flat keys -/
def RepKs (ρ : Rho) (H : Hp) : List (U × U) → List (Key × V) → Prop
  | [], vs => vs = []
  | p :: ps, vs => ∃ k v r, vs = (k, v) :: r ∧ RepV K ρ H p.1 (kV k) ∧ RepV K ρ H p.2 v ∧ RepKs ρ H ps r
def RepO (ρ : Rho) (H : Hp) (a : Addr) : VO → Prop
  | .lst xs => ∃ vs, H a = some (.lst vs) ∧ RepVs K ρ H xs vs
  | .frz xs => ∃ vs, ((∃ o, H a = some (.frz o (.lst vs))) ∨
      ∃ (o : Obj) (its : Array Value) (n : Nat), K.lookup a = some o ∧ o.cls = .type "list" ∧ o.dict = none ∧ o.data = .seq its n ∧ its.size ≤ sizeLine ∧ Vals vs its.toList) ∧ RepVs K ρ H xs vs
  | .dct kvs => ∃ hk, H a = some (.dK hk) ∧ RepKs K ρ H kvs hk ∧ (kvs.map (·.1)).Nodup
  | .ins c fs => ∃ C dx fv, mg c = some (.ref C) ∧ H a = some (.ins C dx fv) ∧ RepFs K ρ H fs fv
/-- may be written -/
def Wr (h : VH) (i : Nat) : Prop := ∃ o, h[i]? = some o ∧ ∀ xs, o ≠ .frz xs
structure RepH (ρ : Rho) (h : VH) (H : Hp) : Prop where
  len : ρ.length = h.length
  inj : ∀ i j a, ρ[i]? = some a → ρ[j]? = some a → Wr h i → Wr h j → i = j
  at_ : ∀ (n : Nat) o a, h[n]? = some o → ρ[n]? = some a → RepO K mg ρ H a o
  zero : (∃ xs, h[0]? = some (.frz xs)) ∧ ∀ n xs, h[n]? = some (.frz xs) → n = 0
/-- not known to ρ, but maybe as the script -/
def Nin (a : Addr) (ρ : Rho) : Prop := ∀ n, 0 < n → ρ[n]? ≠ some a
structure Ext (ρ : Rho) (H : Hp) (ρ' : Rho) (H' : Hp) : Prop where
  pre : ∃ r, ρ' = ρ ++ r ∧ ∀ a ∈ r, H a = none
  frzs : ∀ a o u, H a = some (.frz o u) → H' a = some (.frz o u)
  keep : ∀ a u, Nin a ρ → H a = some u → H' a = some u
  dom : ∀ a, H' a = none → H a = none
structure ExtW (ρ : Rho) (H : Hp) (ρ' : Rho) (H' : Hp) : Prop where
  pre : ∃ r, ρ' = ρ ++ r
  frzs : ∀ a o u, H a = some (.frz o u) → H' a = some (.frz o u)
def REnv (ρ : Rho) (H : Hp) (η : Env) (σ : St) : Prop := η.length = σ.length ∧ ∀ (i : Nat) u, η[i]? = some (some u) → ∃ v, σ[i]? = some (some v) ∧ RepV K ρ H u v
/-- an exception's own dict -/
def RepX (ρ : Rho) (H : Hp) (d : Option Addr) (fs : Fs) : Prop := (fs = [] ∧ d = none) ∨ ∃ dd fv, d = some dd ∧ H dd = some (.xd fv) ∧ RepFs K ρ H fs fv
end

section
variable {K : PySem.W.Frag} {mg : Str → Option Value} {ρ ρ' ρ2 : Rho} {H H' H2 : Hp} {h h' : VH}
theorem Ext.refl : Ext ρ H ρ H := ⟨⟨[], by simp⟩, fun _ _ _ e => e, fun _ _ _ e => e, fun _ e => e⟩
theorem Ext.trans (a : Ext ρ H ρ' H') (b : Ext ρ' H' ρ2 H2) : Ext ρ H ρ2 H2 := by
  obtain ⟨r, e, f⟩ := a.pre
  obtain ⟨q, e2, f2⟩ := b.pre
  refine ⟨⟨r ++ q, by rw [e2, e, List.append_assoc], fun x hx => (List.mem_append.mp hx).elim (f x) fun z => a.dom x (f2 x z)⟩, fun x o u z => b.frzs x o u (a.frzs x o u z), fun x u n z => b.keep x u (fun i hi z2 => ?_) (a.keep x u n z), fun x z => a.dom x (b.dom x z)⟩
  rw [e] at z2
  by_cases hl : i < ρ.length
  · rw [List.getElem?_append_left hl] at z2
    exact n i hi z2
  · rw [List.getElem?_append_right (by omega)] at z2
    rw [f x (List.mem_of_getElem? z2)] at z
    cases z
theorem ExtW.at (x : ExtW ρ H ρ' H') {n : Nat} {a : Addr} (e : ρ[n]? = some a) : ρ'[n]? = some a := by
  obtain ⟨r, rfl⟩ := x.pre
  rw [List.getElem?_append_left (List.getElem?_eq_some_iff.mp e).1]
  exact e
theorem ExtW.sqN (x : ExtW ρ H ρ' H') {a : Addr} {vs : List V} (e : SqN K H a vs) : SqN K H' a vs := by
  rcases e with ⟨o, e, q⟩ | e
  · exact .inl ⟨o, x.frzs _ _ _ e, q⟩
  · exact .inr e
mutual
theorem RepV.extw (x : ExtW ρ H ρ' H') : ∀ (u : U) (v : V), RepV K ρ H u v → RepV K ρ' H' u v
  | .non, _, e => e
  | .bl _, _, e => e
  | .int _, _, e => e
  | .str _, _, e => e
  | .tup us, v, e => by
    unfold RepV at e ⊢
    obtain ⟨a, vs, e1, e2, e3⟩ := e
    exact ⟨a, vs, e1, x.sqN e2, RepVs.extw x us vs e3⟩
  | .ref n, v, e => by
    unfold RepV at e ⊢
    obtain ⟨a, e1, e2⟩ := e
    exact ⟨a, x.at e1, e2⟩
theorem RepVs.extw (x : ExtW ρ H ρ' H') : ∀ (us : List U) (vs : List V), RepVs K ρ H us vs → RepVs K ρ' H' us vs
  | [], _, e => e
  | u :: us, vs, e => by
    unfold RepVs at e ⊢
    obtain ⟨v, r, e1, e2, e3⟩ := e
    exact ⟨v, r, e1, RepV.extw x u v e2, RepVs.extw x us r e3⟩
end
theorem RepFs.extw (x : ExtW ρ H ρ' H') : ∀ (fs : Fs) (fv : List (Str × V)), RepFs K ρ H fs fv → RepFs K ρ' H' fs fv
  | [], _, e => e
  | p :: ps, vs, e => by
    unfold RepFs at e ⊢
    obtain ⟨v, r, e1, e2, e3⟩ := e
    exact ⟨v, r, e1, e2.extw x, RepFs.extw x ps r e3⟩
theorem RepKs.extw (x : ExtW ρ H ρ' H') : ∀ (fs : List (U × U)) (fv : List (Key × V)), RepKs K ρ H fs fv → RepKs K ρ' H' fs fv
  | [], _, e => e
  | p :: ps, vs, e => by
    unfold RepKs at e ⊢
    obtain ⟨k, v, r, e1, e2, e3, e4⟩ := e
    exact ⟨k, v, r, e1, e2.extw x, e3.extw x, RepKs.extw x ps r e4⟩
theorem REnv.extw (x : ExtW ρ H ρ' H') {η : Env} {σ : St} (e : REnv K ρ H η σ) : REnv K ρ' H' η σ := ⟨e.1, fun i u q => by
  obtain ⟨v, e1, e2⟩ := e.2 i u q
  exact ⟨v, e1, e2.extw x⟩⟩
theorem Ext.w (x : Ext ρ H ρ' H') : ExtW ρ H ρ' H' := ⟨x.pre.imp fun _ h => h.1, x.frzs⟩
theorem Ext.at (x : Ext ρ H ρ' H') {n : Nat} {a : Addr} (e : ρ[n]? = some a) : ρ'[n]? = some a := x.w.at e
theorem Ext.sqN (x : Ext ρ H ρ' H') {a : Addr} {vs : List V} (e : SqN K H a vs) : SqN K H' a vs := x.w.sqN e
theorem RepV.ext (x : Ext ρ H ρ' H') (u : U) (v : V) (e : RepV K ρ H u v) : RepV K ρ' H' u v := e.extw x.w
theorem RepVs.ext (x : Ext ρ H ρ' H') (us : List U) (vs : List V) (e : RepVs K ρ H us vs) : RepVs K ρ' H' us vs := e.extw x.w
theorem RepFs.ext (x : Ext ρ H ρ' H') (fs : Fs) (fv : List (Str × V)) (e : RepFs K ρ H fs fv) : RepFs K ρ' H' fs fv := e.extw x.w
theorem RepKs.ext (x : Ext ρ H ρ' H') (fs : List (U × U)) (fv : List (Key × V)) (e : RepKs K ρ H fs fv) : RepKs K ρ' H' fs fv := e.extw x.w
theorem REnv.ext (x : Ext ρ H ρ' H') {η : Env} {σ : St} (e : REnv K ρ H η σ) : REnv K ρ' H' η σ := e.extw x.w
theorem REnv.set {η : Env} {σ : St} {u : U} {v : V} (e : REnv K ρ H η σ) (i : Nat) (r : RepV K ρ H u v) : REnv K ρ H (η.set i (some u)) (σ.set i (some v)) := by
  refine ⟨by rw [List.length_set, List.length_set]; exact e.1, fun j w q => ?_⟩
  by_cases hj : i = j
  · subst hj
    rw [List.getElem?_set] at q
    rw [if_pos rfl] at q
    by_cases hi : i < η.length
    · rw [if_pos hi] at q
      have q' : u = w := by injection q with q; injection q
      subst q'
      exact ⟨v, by rw [List.getElem?_set, if_pos rfl, if_pos (by rw [← e.1]; exact hi)], r⟩
    · rw [if_neg hi] at q
      cases q
  · rw [List.getElem?_set_ne hj] at q
    obtain ⟨z, e1, e2⟩ := e.2 j w q
    exact ⟨z, by rw [List.getElem?_set_ne hj]; exact e1, e2⟩
theorem REnv.get {η : Env} {σ : St} {u : U} {i : Nat} (e : REnv K ρ H η σ) (q : η[i]? = some (some u)) : ∃ v, σ[i]? = some (some v) ∧ RepV K ρ H u v := e.2 i u q
theorem RepVs.len : ∀ {us : List U} {vs : List V}, RepVs K ρ H us vs → us.length = vs.length
  | [], _, e => by unfold RepVs at e; subst e; rfl
  | u :: us, vs, e => by
    unfold RepVs at e
    obtain ⟨v, r, rfl, _, e3⟩ := e
    rw [List.length_cons, List.length_cons, RepVs.len e3]
theorem RepVs.append : ∀ {us ws : List U} {vs zs : List V}, RepVs K ρ H us vs → RepVs K ρ H ws zs → RepVs K ρ H (us ++ ws) (vs ++ zs)
  | [], ws, _, zs, e, q => by unfold RepVs at e; subst e; exact q
  | u :: us, ws, vs, zs, e, q => by
    unfold RepVs at e
    obtain ⟨v, r, rfl, e2, e3⟩ := e
    show RepVs K ρ H (u :: (us ++ ws)) (v :: (r ++ zs))
    unfold RepVs
    exact ⟨v, _, rfl, e2, e3.append q⟩
theorem RepVs.get : ∀ {us : List U} {vs : List V} {i : Nat} {u : U}, RepVs K ρ H us vs → us[i]? = some u → ∃ v, vs[i]? = some v ∧ RepV K ρ H u v
  | [], _, _, _, _, q => by simp at q
  | u :: us, vs, i, w, e, q => by
    unfold RepVs at e
    obtain ⟨v, r, rfl, e2, e3⟩ := e
    cases i with
    | zero =>
      have q' : u = w := by simpa using q
      subst q'
      exact ⟨v, rfl, e2⟩
    | succ i => exact e3.get (i := i) (by simpa using q)
theorem RepVs.set : ∀ {us : List U} {vs : List V} {u : U} {v : V} (i : Nat), RepVs K ρ H us vs → RepV K ρ H u v → RepVs K ρ H (us.set i u) (vs.set i v)
  | [], _, _, _, _, e, _ => by unfold RepVs at e; subst e; exact rfl
  | w :: us, vs, u, v, i, e, q => by
    unfold RepVs at e
    obtain ⟨z, r, rfl, e2, e3⟩ := e
    cases i with
    | zero => exact ⟨v, r, rfl, q, e3⟩
    | succ i => exact ⟨z, _, rfl, e2, e3.set i q⟩
theorem RepVs.one {u : U} {v : V} (r : RepV K ρ H u v) : RepVs K ρ H [u] [v] := ⟨v, [], rfl, r, rfl⟩
theorem RepVs.cons {u : U} {v : V} {us : List U} {vs : List V} (r : RepV K ρ H u v) (q : RepVs K ρ H us vs) : RepVs K ρ H (u :: us) (v :: vs) := ⟨v, vs, rfl, r, q⟩
theorem RepVs.drop : ∀ {us : List U} {vs : List V} (i : Nat), RepVs K ρ H us vs → RepVs K ρ H (us.drop i) (vs.drop i)
  | _, _, 0, e => e
  | [], _, i + 1, e => by unfold RepVs at e; subst e; exact rfl
  | u :: us, vs, i + 1, e => by
    unfold RepVs at e
    obtain ⟨v, r, rfl, _, e3⟩ := e
    exact RepVs.drop i e3
theorem RepVs.take : ∀ {us : List U} {vs : List V} (i : Nat), RepVs K ρ H us vs → RepVs K ρ H (us.take i) (vs.take i)
  | _, _, 0, _ => rfl
  | [], _, i + 1, e => by unfold RepVs at e; subst e; exact rfl
  | u :: us, vs, i + 1, e => by
    unfold RepVs at e
    obtain ⟨v, r, rfl, e2, e3⟩ := e
    exact ⟨v, _, rfl, e2, RepVs.take i e3⟩
theorem RepVs.dropLast {us : List U} {vs : List V} (e : RepVs K ρ H us vs) : RepVs K ρ H us.dropLast vs.dropLast := by
  rw [List.dropLast_eq_take, List.dropLast_eq_take, e.len]
  exact e.take _
theorem RepVs.rep {us : List U} {vs : List V} (e : RepVs K ρ H us vs) : ∀ k : Nat, RepVs K ρ H (List.replicate k us).flatten (List.replicate k vs).flatten
  | 0 => rfl
  | k + 1 => by
    rw [List.replicate_succ, List.replicate_succ, List.flatten_cons, List.flatten_cons]
    exact e.append (e.rep k)
theorem RepVs.map {f : α → U} {g : α → V} (hfg : ∀ a, RepV K ρ H (f a) (g a)) : ∀ (l : List α), RepVs K ρ H (l.map f) (l.map g)
  | [] => rfl
  | a :: l => ⟨_, _, rfl, hfg a, RepVs.map hfg l⟩
theorem RepVs.mapO {f : U → Option α} {g : α → V} (hfg : ∀ u a v, f u = some a → RepV K ρ H u v → v = g a) : ∀ {us : List U} {as : List α} {vs : List V}, MP.mapO f us = some as → RepVs K ρ H us vs → vs = as.map g
  | [], as, vs, e, r => by
    unfold MP.mapO at e
    unfold RepVs at r
    cases e
    subst r
    rfl
  | u :: us, as, vs, e, r => by
    unfold MP.mapO at e
    unfold RepVs at r
    obtain ⟨v, z, rfl, r1, r2⟩ := r
    cases e1 : f u with
    | none => rw [e1] at e; cases e
    | some a =>
      cases e2 : MP.mapO f us with
      | none => rw [e1, e2] at e; cases e
      | some bs =>
        rw [e1, e2] at e
        cases e
        rw [hfg u a v e1 r1, RepVs.mapO hfg e2 r2]
        rfl
theorem RepFs.len : ∀ {fs : Fs} {fv : List (Str × V)}, RepFs K ρ H fs fv → fs.length = fv.length
  | [], _, e => by unfold RepFs at e; subst e; rfl
  | p :: fs, vs, e => by
    unfold RepFs at e
    obtain ⟨v, r, rfl, _, e3⟩ := e
    rw [List.length_cons, List.length_cons, RepFs.len e3]
theorem RepFs.lookup {f : Str} : ∀ {fs : Fs} {fv : List (Str × V)} {u : U}, RepFs K ρ H fs fv → fs.lookup f = some u → ∃ v, fv.lookup f = some v ∧ RepV K ρ H u v
  | [], _, _, _, q => by cases q
  | p :: fs, vs, u, e, q => by
    unfold RepFs at e
    obtain ⟨v, r, rfl, e2, e3⟩ := e
    obtain ⟨g, w⟩ := p
    simp only [List.lookup] at q ⊢
    cases e4 : f == g with
    | true =>
      rw [e4] at q
      have q' : w = u := by simpa using q
      subst q'
      exact ⟨v, rfl, e2⟩
    | false =>
      rw [e4] at q
      exact e3.lookup q
theorem RepFs.lookup_none {f : Str} : ∀ {fs : Fs} {fv : List (Str × V)}, RepFs K ρ H fs fv → fs.lookup f = none → fv.lookup f = none
  | [], _, e, _ => by unfold RepFs at e; subst e; rfl
  | p :: fs, vs, e, q => by
    unfold RepFs at e
    obtain ⟨v, r, rfl, e2, e3⟩ := e
    obtain ⟨g, w⟩ := p
    simp only [List.lookup] at q ⊢
    cases e4 : f == g with
    | true => rw [e4] at q; cases q
    | false =>
      rw [e4] at q
      exact e3.lookup_none q
theorem RepFs.putF {f : Str} {u : U} {v : V} (r : RepV K ρ H u v) : ∀ {fs : Fs} {fv : List (Str × V)}, RepFs K ρ H fs fv → RepFs K ρ H (MP.putF f u fs) (L2.putF f v fv)
  | [], _, e => by
    unfold RepFs at e
    subst e
    exact ⟨v, [], rfl, r, rfl⟩
  | p :: fs, vs, e => by
    unfold RepFs at e
    obtain ⟨w, z, rfl, e2, e3⟩ := e
    obtain ⟨g, y⟩ := p
    show RepFs K ρ H (if g = f then (g, u) :: fs else (g, y) :: MP.putF f u fs) (if g = f then (g, v) :: z else (g, w) :: L2.putF f v z)
    by_cases hg : g = f
    · rw [if_pos hg, if_pos hg]
      exact ⟨v, z, rfl, r, e3⟩
    · rw [if_neg hg, if_neg hg]
      exact ⟨w, _, rfl, e2, e3.putF r⟩

/-! ### the heap changes -/
theorem RepO.extw (x : ExtW ρ H ρ' H') {a : Addr} {o : VO} (ha : (∀ xs, o ≠ .frz xs) → ∀ u, H a = some u → H' a = some u) (e : RepO K mg ρ H a o) : RepO K mg ρ' H' a o := by
  cases o with
  | lst xs =>
    obtain ⟨vs, e1, e2⟩ := e
    exact ⟨vs, ha (fun _ q => nomatch q) _ e1, e2.extw x⟩
  | frz xs =>
    obtain ⟨vs, e1, e2⟩ := e
    refine ⟨vs, ?_, e2.extw x⟩
    rcases e1 with ⟨o, e1⟩ | e1
    · exact .inl ⟨o, x.frzs _ _ _ e1⟩
    · exact .inr e1
  | dct kvs =>
    obtain ⟨hk, e1, e2, e3⟩ := e
    exact ⟨hk, ha (fun _ q => nomatch q) _ e1, e2.extw x, e3⟩
  | ins c fs =>
    obtain ⟨C, dx, fv, e0, e1, e2⟩ := e
    exact ⟨C, dx, fv, e0, ha (fun _ q => nomatch q) _ e1, e2.extw x⟩
theorem RepO.ext (x : Ext ρ H ρ' H') {a : Addr} {o : VO} (ha : (∀ xs, o ≠ .frz xs) → ∀ u, H a = some u → H' a = some u) (e : RepO K mg ρ H a o) : RepO K mg ρ' H' a o := e.extw x.w ha
theorem RepH.ref (r : RepH K mg ρ h H) {n : Nat} {o : VO} (e : h[n]? = some o) : ∃ a, ρ[n]? = some a ∧ RepO K mg ρ H a o := by
  have hn : n < ρ.length := by rw [r.len]; exact (List.getElem?_eq_some_iff.mp e).1
  exact ⟨ρ[n], List.getElem?_eq_getElem hn, r.at_ n o _ e (List.getElem?_eq_getElem hn)⟩
/-- what a new object leaves -/
theorem upd_dom {p : Addr} {o : HO} {a : Addr} (e : upd H p o a = none) : H a = none := by
  by_cases hb : a = p
  · rw [hb, upd_same] at e
    cases e
  · rw [upd_ne hb] at e
    exact e
theorem Ext.upd_new {p : Addr} {o : HO} (hp : H p = none) : Ext ρ H ρ (upd H p o) := ⟨⟨[], by simp⟩, fun a z u e => by rw [upd_ne (ne_of_none e hp)]; exact e, fun a u _ e => by rw [upd_ne (ne_of_none e hp)]; exact e, fun a e => upd_dom e⟩
theorem RepH.upd_new {p : Addr} {o : HO} (r : RepH K mg ρ h H) (hp : H p = none) : RepH K mg ρ h (upd H p o) :=
  ⟨r.len, r.inj, fun n vo a e1 e2 => (r.at_ n vo a e1 e2).ext (.upd_new hp) fun _ u e => by rw [upd_ne (ne_of_none e hp)]; exact e, r.zero⟩
theorem zero_push {vo : VO} (z : (∃ xs, h[0]? = some (.frz xs)) ∧ ∀ (n : Nat) xs, h[n]? = some (.frz xs) → n = 0) (hv : ∀ xs, vo ≠ .frz xs) : (∃ xs, (h ++ [vo])[0]? = some (.frz xs)) ∧ ∀ (n : Nat) xs, (h ++ [vo])[n]? = some (.frz xs) → n = 0 := by
  refine ⟨z.1.imp fun xs e => by rw [List.getElem?_append_left (List.getElem?_eq_some_iff.mp e).1]; exact e, fun n xs e => ?_⟩
  by_cases hl : n < h.length
  · rw [List.getElem?_append_left hl] at e
    exact z.2 n xs e
  · rw [List.getElem?_append_right (by omega)] at e
    have := List.mem_of_getElem? e
    exact absurd (List.mem_singleton.mp this).symm (hv xs)
theorem RepH.pos (r : RepH K mg ρ h H) {n : Nat} {o : VO} (e : h[n]? = some o) (hw : ∀ xs, o ≠ .frz xs) : 0 < n := by
  obtain ⟨xs, q⟩ := r.zero.1
  cases n with
  | zero => rw [q] at e; exact absurd (Option.some.inj e).symm (hw xs)
  | succ n => exact Nat.succ_pos n
theorem RepH.nin (r : RepH K mg ρ h H) {D : Addr} (hD : H D = none) : Nin D ρ := fun n hn e => by
  have hl : n < h.length := by rw [← r.len]; exact (List.getElem?_eq_some_iff.mp e).1
  have q := r.at_ n _ D (List.getElem?_eq_getElem hl) e
  have hz : ∀ xs, h[n] ≠ .frz xs := fun xs z => by
    have := r.zero.2 n xs (by rw [List.getElem?_eq_getElem hl, z])
    omega
  generalize h[n] = o at q hz
  cases o with
  | lst xs => obtain ⟨vs, e1, _⟩ := q; rw [hD] at e1; cases e1
  | frz xs => exact hz xs rfl
  | dct kvs => obtain ⟨hk, e1, _⟩ := q; rw [hD] at e1; cases e1
  | ins c fs => obtain ⟨C, dx, fv, _, e1, _⟩ := q; rw [hD] at e1; cases e1
theorem Nin.ext (n : Nin D ρ) (x : Ext ρ H ρ' H') {u : HO} (hu : H D = some u) : Nin D ρ' := fun i hi e => by
  obtain ⟨r, q, f⟩ := x.pre
  rw [q] at e
  by_cases hl : i < ρ.length
  · rw [List.getElem?_append_left hl] at e
    exact n i hi e
  · rw [List.getElem?_append_right (by omega)] at e
    rw [f D (List.mem_of_getElem? e)] at hu
    cases hu
theorem Ext.push {p : Addr} {o : HO} (hp : H p = none) : Ext ρ H (ρ ++ [p]) (upd H p o) := ⟨⟨[p], rfl, fun a ha => by rw [List.mem_singleton.mp ha]; exact hp⟩, (Ext.upd_new (ρ := ρ) hp).frzs, (Ext.upd_new (ρ := ρ) hp).keep, (Ext.upd_new (ρ := ρ) hp).dom⟩
theorem RepO.tracked {a : Addr} {o : VO} (e : RepO K mg ρ H a o) (hw : ∀ xs, o ≠ .frz xs) : ∃ u, H a = some u ∧ (∀ z w, u ≠ .frz z w) := by
  cases o with
  | lst xs =>
    obtain ⟨vs, e1, _⟩ := e
    exact ⟨_, e1, (fun _ _ q => nomatch q)⟩
  | frz xs => exact absurd rfl (hw xs)
  | dct kvs =>
    obtain ⟨hk, e1, _⟩ := e
    exact ⟨_, e1, (fun _ _ q => nomatch q)⟩
  | ins c fs =>
    obtain ⟨C, dx, fv, _, e1, _⟩ := e
    exact ⟨_, e1, (fun _ _ q => nomatch q)⟩
/-- a new object joins -/
theorem RepH.push {p : Addr} {o : HO} {vo : VO} (r : RepH K mg ρ h H) (hp : H p = none) (new : RepO K mg (ρ ++ [p]) (upd H p o) p vo) (hv : ∀ xs, vo ≠ .frz xs := by intro _ z; cases z) : RepH K mg (ρ ++ [p]) (h ++ [vo]) (upd H p o) := by
  have old : ∀ {i : Nat} {a : Addr}, (ρ ++ [p])[i]? = some a → i < ρ.length ∧ ρ[i]? = some a ∨ i = ρ.length ∧ a = p := fun {i a} e => by
    by_cases hi : i < ρ.length
    · rw [List.getElem?_append_left hi] at e
      exact .inl ⟨hi, e⟩
    · rw [List.getElem?_append_right (by omega)] at e
      have hi2 : i = ρ.length := by
        have := (List.getElem?_eq_some_iff.mp e).1
        simp at this
        omega
      subst hi2
      simp at e
      exact .inr ⟨rfl, e.symm⟩
  have wr : ∀ {i : Nat}, i < ρ.length → Wr (h ++ [vo]) i → Wr h i := fun {i} hi ⟨o, e, q⟩ => by
    rw [List.getElem?_append_left (by rw [← r.len]; exact hi)] at e
    exact ⟨o, e, q⟩
  have np : ∀ {i : Nat} {a : Addr}, ρ[i]? = some a → Wr h i → a ≠ p := fun {i a} e ⟨o, e1, q⟩ => by
    obtain ⟨u, hu, _⟩ := (r.at_ i o a e1 e).tracked q
    exact ne_of_none hu hp
  refine ⟨by simp [r.len], fun i j a e1 e2 w1 w2 => ?_, fun n u a e1 e2 => ?_, zero_push r.zero hv⟩
  · rcases old e1 with ⟨h1, q1⟩ | ⟨h1, q1⟩ <;> rcases old e2 with ⟨h2, q2⟩ | ⟨h2, q2⟩
    · exact r.inj i j a q1 q2 (wr h1 w1) (wr h2 w2)
    · exact absurd q2 (np q1 (wr h1 w1))
    · exact absurd q1 (np q2 (wr h2 w2))
    · rw [h1, h2]
  · rcases old e2 with ⟨h1, q1⟩ | ⟨h1, q1⟩
    · rw [List.getElem?_append_left (by rw [← r.len]; exact h1)] at e1
      exact (r.at_ n u a e1 q1).ext (.push hp) fun _ w e => by rw [upd_ne (ne_of_none e hp)]; exact e
    · subst h1
      subst q1
      rw [r.len] at e1
      have e1' : vo = u := by simpa using e1
      subst e1'
      exact new
/-- an object is written -/
theorem Ext.write {n : Nat} {a : Addr} {u o : HO} (hn : 0 < n) (hr : ρ[n]? = some a) (ha : H a = some u) (h1 : ∀ z w, u ≠ .frz z w) : Ext ρ H ρ (upd H a o) :=
  ⟨⟨[], by simp⟩, fun b z w e => by
    have : b ≠ a := fun q => by rw [q, ha] at e; exact h1 z w (Option.some.inj e)
    rw [upd_ne this]; exact e, fun b w n1 e => by
    have : b ≠ a := fun q => n1 n hn (by rw [q]; exact hr)
    rw [upd_ne this]; exact e, fun b e => upd_dom e⟩
theorem RepH.write {n : Nat} {a : Addr} {vo vo' : VO} {o : HO} (r : RepH K mg ρ h H) (e1 : h[n]? = some vo) (hw : ∀ xs, vo ≠ .frz xs) (e2 : ρ[n]? = some a) (hw' : ∀ xs, vo' ≠ .frz xs)
    (new : RepO K mg ρ (upd H a o) a vo') : RepH K mg ρ (h.set n vo') (upd H a o) := by
  obtain ⟨u, hu, n1⟩ := (r.at_ n vo a e1 e2).tracked hw
  have wr : ∀ {i : Nat}, Wr (h.set n vo') i → Wr h i := fun {i} ⟨o, e, q⟩ => by
    by_cases hi : n = i
    · subst hi
      exact ⟨vo, e1, hw⟩
    · rw [List.getElem?_set_ne hi] at e
      exact ⟨o, e, q⟩
  refine ⟨by rw [List.length_set]; exact r.len, fun i j b q1 q2 w1 w2 => r.inj i j b q1 q2 (wr w1) (wr w2), fun m w b q1 q2 => ?_, ?_⟩
  rotate_left
  · refine ⟨r.zero.1.imp fun xs e => ?_, fun m xs e => ?_⟩
    · rw [List.getElem?_set_ne (by have := r.pos e1 hw; omega)]
      exact e
    · by_cases hm : n = m
      · subst hm
        rw [List.getElem?_set, if_pos rfl, if_pos (List.getElem?_eq_some_iff.mp e1).1] at e
        exact absurd (Option.some.inj e) (hw' xs)
      · rw [List.getElem?_set_ne hm] at e
        exact r.zero.2 m xs e
  by_cases hm : n = m
  · subst hm
    rw [e2] at q2
    cases q2
    rw [List.getElem?_set, if_pos rfl, if_pos (List.getElem?_eq_some_iff.mp e1).1] at q1
    cases q1
    exact new
  · rw [List.getElem?_set_ne hm] at q1
    refine (r.at_ m w b q1 q2).ext (.write (r.pos e1 hw) e2 hu n1) fun hz z e => ?_
    by_cases hb : b = a
    · subst hb
      exact absurd (r.inj n m b e2 q2 ⟨vo, e1, hw⟩ ⟨_, q1, hz⟩) hm
    · rw [upd_ne hb]; exact e
/-- an object that ρ does not know is written -/
theorem RepH.own {D : Addr} {o : HO} {u : HO} (r : RepH K mg ρ h H) (hD : Nin D ρ) (hu : H D = some u) (hz : ∀ z w, u ≠ .frz z w) : RepH K mg ρ h (upd H D o) :=
  ⟨r.len, r.inj, fun n vo a e1 e2 => (r.at_ n vo a e1 e2).extw ⟨⟨[], by simp⟩, fun b z w e => by
    have : b ≠ D := fun q => by rw [q, hu] at e; exact hz z w (Option.some.inj e)
    rw [upd_ne this]; exact e⟩ fun hw x e => by
      have : a ≠ D := fun q => hD n (r.pos e1 hw) (q ▸ e2)
      rw [upd_ne this]; exact e, r.zero⟩
theorem ExtW.own {D : Addr} {o : HO} {u : HO} (hu : H D = some u) (hz : ∀ z w, u ≠ .frz z w) : ExtW ρ H ρ (upd H D o) := ⟨⟨[], by simp⟩, fun b z w e => by
    have : b ≠ D := fun q => by rw [q, hu] at e; exact hz z w (Option.some.inj e)
    rw [upd_ne this]; exact e⟩
theorem Ext.own {D : Addr} {o : HO} {u : HO} (x : Ext ρ H ρ' H') (hD : H D = none) (hu : H' D = some u) (hz : ∀ z w, u ≠ .frz z w) : Ext ρ H ρ' (upd H' D o) := by
  refine ⟨x.pre, fun b z w e => ?_, fun b w n e => ?_, fun b e => x.dom b (upd_dom e)⟩
  · rw [upd_ne (ne_of_none e hD)]
    exact x.frzs b z w e
  · rw [upd_ne (ne_of_none e hD)]
    exact x.keep b w n e
/-- .. and joins -/
theorem RepH.join {p : Addr} {vo : VO} (r : RepH K mg ρ h H) (hp : Nin p ρ) (new : RepO K mg (ρ ++ [p]) H p vo) (hv : ∀ xs, vo ≠ .frz xs := by intro _ z; cases z) : RepH K mg (ρ ++ [p]) (h ++ [vo]) H := by
  have old : ∀ {i : Nat} {a : Addr}, (ρ ++ [p])[i]? = some a → i < ρ.length ∧ ρ[i]? = some a ∨ i = ρ.length ∧ a = p := fun {i a} e => by
    by_cases hi : i < ρ.length
    · rw [List.getElem?_append_left hi] at e
      exact .inl ⟨hi, e⟩
    · rw [List.getElem?_append_right (by omega)] at e
      have hi2 : i = ρ.length := by
        have := (List.getElem?_eq_some_iff.mp e).1
        simp at this
        omega
      subst hi2
      simp at e
      exact .inr ⟨rfl, e.symm⟩
  have wr : ∀ {i : Nat}, i < ρ.length → Wr (h ++ [vo]) i → Wr h i := fun {i} hi ⟨o, e, q⟩ => by
    rw [List.getElem?_append_left (by rw [← r.len]; exact hi)] at e
    exact ⟨o, e, q⟩
  have np : ∀ {i : Nat} {a : Addr}, ρ[i]? = some a → Wr h i → a ≠ p := fun {i a} e ⟨o, e1, w⟩ q => hp i (r.pos e1 w) (q ▸ e)
  refine ⟨by simp [r.len], fun i j a e1 e2 w1 w2 => ?_, fun n u a e1 e2 => ?_, zero_push r.zero hv⟩
  · rcases old e1 with ⟨h1, q1⟩ | ⟨h1, q1⟩ <;> rcases old e2 with ⟨h2, q2⟩ | ⟨h2, q2⟩
    · exact r.inj i j a q1 q2 (wr h1 w1) (wr h2 w2)
    · exact absurd q2 (np q1 (wr h1 w1))
    · exact absurd q1 (np q2 (wr h2 w2))
    · rw [h1, h2]
  · rcases old e2 with ⟨h1, q1⟩ | ⟨h1, q1⟩
    · rw [List.getElem?_append_left (by rw [← r.len]; exact h1)] at e1
      exact (r.at_ n u a e1 q1).extw ⟨⟨[p], rfl⟩, fun _ _ _ e => e⟩ fun _ w e => e
    · subst h1
      subst q1
      rw [r.len] at e1
      have e1' : vo = u := by simpa using e1
      subst e1'
      exact new
theorem Ext.join {p : Addr} (x : Ext ρ H ρ' H') (hp : H p = none) : Ext ρ H (ρ' ++ [p]) H' := by
  obtain ⟨r, e, f⟩ := x.pre
  exact ⟨⟨r ++ [p], by rw [e, List.append_assoc], fun a ha => (List.mem_append.mp ha).elim (f a) fun z => by rw [List.mem_singleton.mp z]; exact hp⟩, x.frzs, x.keep, x.dom⟩
end
end MP
/-! MPc: what a run of the small machine promises, and the operators. -/
namespace MP
open PySem L2

section
variable (K : PySem.W.Frag) (mg : Str → Option Value)
/-- what is wanted behind a run -/
def Post {α : Type} (E : XK) (R : α → Rho → Hp → Prop) (ρ : Rho) (H : Hp) : Res α → Prop
  | .ok a h' => ∀ ρ' H', Ext ρ H ρ' H' → RepH K mg ρ' h' H' → R a ρ' H'
  | .exc c fs h' => ∀ ρ' H' C d, Ext ρ H ρ' H' → RepH K mg ρ' h' H' → mg c = some (.ref C) → RepX K ρ' H' d fs → E (.ref C) d H'
  | .bad => False
def RV (Q : VK) : U → Rho → Hp → Prop := fun u ρ H => ∀ v, RepV K ρ H u v → Q v H
def RVs (Q : List V → Hp → Prop) : List U → Rho → Hp → Prop := fun us ρ H => ∀ vs, RepVs K ρ H us vs → Q vs H
def RB (Q : Bool → Hp → Prop) : Bool → Rho → Hp → Prop := fun b _ H => Q b H
structure At (ρ : Rho) (h : VH) (η : Env) (σ : St) (H : Hp) : Prop where
  heap : RepH K mg ρ h H
  env : REnv K ρ H η σ
def tE (W : WX) (m : EM) : TE := fun σ H Q => ∃ ρ h η, At K mg ρ h η σ H ∧ Post K mg (fun c d H' => W c d σ H') (RV K Q) ρ H (m η h)
def tT (W : WX) (m : TM) : TT := fun σ H Q => ∃ ρ h η, At K mg ρ h η σ H ∧ Post K mg (fun c d H' => W c d σ H') (RB Q) ρ H (m η h)
def tA (W : WX) (m : AM) : TA := fun σ H Q => ∃ ρ h η, At K mg ρ h η σ H ∧ Post K mg (fun c d H' => W c d σ H') (RVs K Q) ρ H (m η h)
/-- a two-place operation as the layer's reading -/
def rO (f : O2) : R2 := fun x y H Q => ∃ E ρ h u w, RepH K mg ρ h H ∧ RepV K ρ H u x ∧ RepV K ρ H w y ∧ Post K mg E (RV K Q) ρ H (f u w h)
end
section
variable {K : PySem.W.Frag} {mg : Str → Option Value} {ρ ρ1 : Rho} {h h1 : VH} {H H1 : Hp} {η : Env} {σ : St} {E : XK} {α β : Type}
theorem Post.ext {R : α → Rho → Hp → Prop} (x : Ext ρ H ρ1 H1) {r : Res α} (p : Post K mg E R ρ H r) : Post K mg E R ρ1 H1 r := by
  cases r with
  | ok a h' => exact fun ρ' H' y q => p ρ' H' (x.trans y) q
  | exc c fs h' => exact fun ρ' H' C d y q => p ρ' H' C d (x.trans y) q
  | bad => exact p
theorem Post.bind {R1 : α → Rho → Hp → Prop} {R2 : β → Rho → Hp → Prop} {m : M α} {k : α → M β} (p : Post K mg E R2 ρ H (bnd m k h))
    (hk : ∀ a ρ1 h1 H1, Ext ρ H ρ1 H1 → RepH K mg ρ1 h1 H1 → Post K mg E R2 ρ1 H1 (k a h1) → R1 a ρ1 H1) : Post K mg E R1 ρ H (m h) := by
  unfold bnd at p
  cases e : m h with
  | ok a h' =>
    rw [e] at p
    exact fun ρ' H' x r => hk a ρ' h' H' x r (Post.ext x p)
  | exc c fs h' =>
    rw [e] at p
    exact p
  | bad =>
    rw [e] at p
    exact p
theorem Post.mono {R1 R2 : α → Rho → Hp → Prop} {E2 : XK} {r : Res α} (p : Post K mg E R1 ρ H r) (hk : ∀ a ρ1 H1, Ext ρ H ρ1 H1 → R1 a ρ1 H1 → R2 a ρ1 H1) (hE : ∀ c d H', E c d H' → E2 c d H') : Post K mg E2 R2 ρ H r := by
  cases r with
  | ok a h' => exact fun ρ' H' x q => hk a ρ' H' x (p ρ' H' x q)
  | exc c fs h' => exact fun ρ' H' C d y q z w => hE _ _ _ (p ρ' H' C d y q z w)
  | bad => exact p
theorem At.ext (a : At K mg ρ h η σ H) (x : Ext ρ H ρ1 H1) (r : RepH K mg ρ1 h1 H1) : At K mg ρ1 h1 η σ H1 := ⟨r, a.env.ext x⟩
/-- the end as it stands -/
theorem Post.here {R : α → Rho → Hp → Prop} {a : α} (p : Post K mg E R ρ H (.ok a h)) (r : RepH K mg ρ h H) : R a ρ H := p ρ H .refl r
theorem Post.v {Q : VK} {u : U} {v : V} (p : Post K mg E (RV K Q) ρ H (.ok u h)) (r : RepH K mg ρ h H) (rv : RepV K ρ H u v) : Q v H := p ρ H .refl r v rv
/-- a new object, tracked by the layer alone (a tuple) -/
theorem Post.tup {Q : VK} {us : List U} {vs : List V} (p : Post K mg E (RV K Q) ρ H (.ok (.tup us) h)) (r : RepH K mg ρ h H) (rv : RepVs K ρ H us vs) : NewT vs Q H := fun a o ha ho =>
  p ρ _ (.upd_new ha) (r.upd_new ha) _ (by
    unfold RepV
    exact ⟨a, vs, rfl, .inl ⟨o, upd_same, ho⟩, rv.ext (.upd_new ha)⟩)
/-- a new list -/
theorem Post.lst {Q : VK} {us : List U} {vs : List V} (p : Post K mg E (RV K Q) ρ H (newL us h)) (r : RepH K mg ρ h H) (rv : RepVs K ρ H us vs) {a : Addr} (ha : H a = none) : Q (.ref a) (upd H a (.lst vs)) := by
  refine p (ρ ++ [a]) _ (.push ha) (r.push ha ⟨vs, upd_same, rv.ext (.push ha)⟩) _ ?_
  unfold RepV
  exact ⟨a, by rw [← r.len]; simp, rfl⟩
theorem RepV.ref_at (r : RepH K mg ρ h H) {n : Nat} {x : V} {o : VO} (rx : RepV K ρ H (.ref n) x) (e : h[n]? = some o) : ∃ a, ρ[n]? = some a ∧ x = .ref a ∧ RepO K mg ρ H a o := by
  unfold RepV at rx
  obtain ⟨a, e1, e2⟩ := rx
  exact ⟨a, e1, e2, r.at_ n o a e e1⟩
theorem RepO.sqL {a : Addr} {o : VO} {xs : List U} (e : RepO K mg ρ H a o) (ho : o = .lst xs ∨ o = .frz xs) : ∃ vs, SqL K H a vs ∧ RepVs K ρ H xs vs := by
  rcases ho with rfl | rfl
  · obtain ⟨vs, e1, e2⟩ := e
    exact ⟨vs, SqL.of e1, e2⟩
  · obtain ⟨vs, e1, e2⟩ := e
    rcases e1 with ⟨o, e1⟩ | e1
    · exact ⟨vs, .inl (.inr ⟨o, e1⟩), e2⟩
    · exact ⟨vs, .inr e1, e2⟩
theorem lstOf_rep (r : RepH K mg ρ h H) {u : U} {x : V} {xs : List U} (rx : RepV K ρ H u x) (e : lstOf h u = some xs) : ∃ a vs, x = .ref a ∧ SqL K H a vs ∧ RepVs K ρ H xs vs := by
  cases u with
  | ref n =>
    unfold lstOf at e
    cases e1 : h[n]? with
    | none => simp [e1] at e
    | some o =>
      obtain ⟨a, _, e2, ro⟩ := RepV.ref_at r rx e1
      cases o with
      | lst ys =>
        simp [e1] at e
        subst e
        obtain ⟨vs, h1, h2⟩ := ro.sqL (.inl rfl)
        exact ⟨a, vs, e2, h1, h2⟩
      | frz ys =>
        simp [e1] at e
        subst e
        obtain ⟨vs, h1, h2⟩ := ro.sqL (.inr rfl)
        exact ⟨a, vs, e2, h1, h2⟩
      | _ => simp [e1] at e
  | _ => simp [lstOf] at e
theorem seqOf_rep (r : RepH K mg ρ h H) {u : U} {x : V} {xs : List U} (rx : RepV K ρ H u x) (e : seqOf h u = some xs) : ∃ a vs, x = .ref a ∧ (SqL K H a vs ∨ SqN K H a vs) ∧ RepVs K ρ H xs vs := by
  unfold seqOf at e
  cases u with
  | tup ys =>
    have e' : ys = xs := by simpa using e
    subst e'
    unfold RepV at rx
    obtain ⟨a, vs, e1, e2, e3⟩ := rx
    exact ⟨a, vs, e1, .inr e2, e3⟩
  | ref n =>
    obtain ⟨a, vs, e1, e2, e3⟩ := lstOf_rep r rx (by simpa using e)
    exact ⟨a, vs, e1, .inl e2, e3⟩
  | _ => simp [lstOf] at e
/-! ### as data -/
theorem toDs_rep {n : Nat} (ih : ∀ (u : U) (d : PyData) (x : V), toD n h u = some d → RepV K ρ H u x → Dp K H x d) :
    ∀ (us : List U) (ds : List PyData) (vs : List V), mapO (toD n h) us = some ds → RepVs K ρ H us vs → DpAll K H vs ds
  | [], ds, vs, e, q => by
    unfold mapO at e
    unfold RepVs at q
    cases e
    subst q
    exact .nil
  | u :: us, ds, vs, e, q => by
    unfold mapO at e
    unfold RepVs at q
    obtain ⟨v, z, rfl, r1, r2⟩ := q
    cases e1 : toD n h u with
    | none => rw [e1] at e; cases e
    | some a =>
      cases e2 : mapO (toD n h) us with
      | none => rw [e1, e2] at e; cases e
      | some bs =>
        rw [e1, e2] at e
        cases e
        exact .cons (ih u a v e1 r1) (toDs_rep ih us bs z e2 r2)
theorem toD_rep (r : RepH K mg ρ h H) : ∀ (n : Nat) (u : U) (d : PyData) (x : V), toD n h u = some d → RepV K ρ H u x → Dp K H x d
  | 0, _, _, _, e, _ => by cases e
  | n + 1, u, d, x, e, rx => by
    unfold toD at e
    cases u with
    | non => cases e; unfold RepV at rx; subst rx; exact .non
    | bl b => cases e; unfold RepV at rx; subst rx; exact .bl b
    | int b => cases e; unfold RepV at rx; subst rx; exact .int b
    | str b => cases e; unfold RepV at rx; subst rx; exact .str b
    | tup us =>
      unfold RepV at rx
      obtain ⟨a, vs, rfl, e2, e3⟩ := rx
      cases e1 : mapO (toD n h) us with
      | none => simp [e1] at e
      | some ds =>
        have e' : PyData.tuple ds = d := by simpa [e1] using e
        subst e'
        exact .tup e2.sqT (toDs_rep (toD_rep r n) us ds vs e1 e3)
    | ref m =>
      cases e1 : h[m]? with
      | none => simp [e1] at e
      | some o =>
        obtain ⟨a, _, rfl, ro⟩ := RepV.ref_at r rx e1
        have key : ∀ xs, (o = .lst xs ∨ o = .frz xs) → (mapO (toD n h) xs).map PyData.list = some d → Dp K H (.ref a) d := fun xs ho e => by
          obtain ⟨vs, h1, h2⟩ := ro.sqL ho
          cases e1 : mapO (toD n h) xs with
          | none => simp [e1] at e
          | some ds =>
            have e' : PyData.list ds = d := by simpa [e1] using e
            subst e'
            exact .lst h1 (toDs_rep (toD_rep r n) xs ds vs e1 h2)
        cases o with
        | lst xs => exact key xs (.inl rfl) (by simpa [e1] using e)
        | frz xs => exact key xs (.inr rfl) (by simpa [e1] using e)
        | _ => simp [e1] at e
end

section
variable {X : Cx}
theorem opI_rule {f : Value → Value → Sem Value} {g : Int → Int → Option U} {C : Int → Int → Prop} {k : Int → Int → V} (ho : OpR X f (rI C k)) (hg : ∀ i j u, g i j = some u → C i j ∧ ∀ ρ H, RepV X.K ρ H u (k i j)) : OpR X f (rO X.K X.mg (opI g)) := by
  rintro pins s σ H x y v u Q I rx ry ⟨E, ρ, h, a, b, rep, ra, rb, p⟩
  cases a <;> cases b <;> try exact p.elim
  rename_i i j
  unfold RepV at ra rb
  simp only [opI] at p
  cases e : g i j with
  | none => rw [e] at p; exact p.elim
  | some w =>
    rw [e] at p
    obtain ⟨c, q⟩ := hg i j w e
    exact ho pins s σ H x y v u Q I rx ry ⟨i, j, ra, rb, c, Post.v p rep (q ρ H)⟩
theorem rI0_rI {f : Value → Value → Sem Value} {k : Int → Int → V} (ho : OpR X f (rI0 k)) : OpR X f (rI (fun _ _ => True) k) := by
  rintro pins s σ H x y v u Q I rx ry ⟨i, j, e1, e2, _, q⟩
  exact ho pins s σ H x y v u Q I rx ry ⟨i, j, e1, e2, q⟩
theorem opI_rule0 {f : Value → Value → Sem Value} {g : Int → Int → U} {k : Int → Int → V} (ho : OpR X f (rI0 k)) (hg : ∀ i j ρ H, RepV X.K ρ H (g i j) (k i j)) : OpR X f (rO X.K X.mg (opI fun i j => some (g i j))) :=
  opI_rule (rI0_rI ho) fun i j u e => ⟨trivial, fun ρ H => by cases e; exact hg i j ρ H⟩
theorem o_sub : OpR X (binaryOp .Sub) (rO X.K X.mg subU) := opI_rule0 op_sub fun i j ρ H => rfl
theorem o_lt : OpR X (compareOp .Lt) (rO X.K X.mg ltU) := opI_rule0 op_lt fun i j ρ H => rfl
theorem o_le : OpR X (compareOp .LtE) (rO X.K X.mg leU) := opI_rule0 op_le fun i j ρ H => rfl
theorem o_gt : OpR X (compareOp .Gt) (rO X.K X.mg gtU) := opI_rule0 op_gt fun i j ρ H => rfl
theorem o_ge : OpR X (compareOp .GtE) (rO X.K X.mg geU) := opI_rule0 op_ge fun i j ρ H => rfl
theorem o_fdiv : OpR X (binaryOp .FloorDiv) (rO X.K X.mg fdivU) := opI_rule op_fdivN fun i j u e => by
  by_cases c : j ≠ 0 ∧ j.natAbs < 1073741824
  · rw [if_pos c] at e
    cases e
    exact ⟨c, fun ρ H => rfl⟩
  · rw [if_neg c] at e
    cases e
theorem o_mod : OpR X (binaryOp .Mod) (rO X.K X.mg modU) := opI_rule op_modN fun i j u e => by
  by_cases c : j ≠ 0
  · rw [if_pos c] at e
    cases e
    exact ⟨c, fun ρ H => rfl⟩
  · rw [if_neg c] at e
    cases e
theorem o_pow : OpR X (binaryOp .Pow) (rO X.K X.mg powU) := opI_rule op_pow fun i j u e => by
  by_cases c : 0 ≤ j ∧ j ≤ 1000000 ∧ i.natAbs < 2 ^ 64
  · rw [if_pos c] at e
    cases e
    exact ⟨c, fun ρ H => rfl⟩
  · rw [if_neg c] at e
    cases e
theorem o_add : OpR X (binaryOp .Add) (rO X.K X.mg addU) := by
  rintro pins s σ H x y v u Q I rx ry ⟨E, ρ, h, a, b, rep, ra, rb, p⟩
  cases a <;> cases b <;> try exact p.elim
  · rename_i i j
    unfold RepV at ra rb
    exact op_add pins s σ H x y v u Q I rx ry ⟨i, j, ra, rb, Post.v p rep rfl⟩
  · rename_i i j
    unfold RepV at ra rb
    simp only [addU] at p
    by_cases c : i.length + j.length ≤ sizeLine
    · rw [if_pos c] at p
      exact op_add_str pins s σ H x y v u Q I rx ry ⟨i, j, ra, rb, c, Post.v p rep rfl⟩
    · rw [if_neg c] at p
      exact p.elim
  · rename_i xs ys
    unfold RepV at ra rb
    obtain ⟨a1, v1, e1, s1, q1⟩ := ra
    obtain ⟨a2, v2, e2, s2, q2⟩ := rb
    simp only [addU] at p
    by_cases c : xs.length + ys.length ≤ sizeLine
    · rw [if_pos c] at p
      rw [q1.len, q2.len] at c
      have rv := q1.append q2
      refine op_catN pins s σ H x y v u Q I rx ry ⟨a1, a2, v1, v2, e1, e2, s1.sqT, s2.sqT, c, fun z => ?_, fun z => ?_, fun _ _ => Post.tup p rep rv⟩
      · subst z
        exact Post.v p rep (by unfold RepV; exact ⟨a2, v2, rfl, s2, by simpa using rv⟩)
      · intro z2
        subst z2
        exact Post.v p rep (by unfold RepV; exact ⟨a1, v1, rfl, s1, by simpa using rv⟩)
    · rw [if_neg c] at p
      exact p.elim
  · rename_i n m
    simp only [addU] at p
    cases e1 : h[n]? with
    | none => simp [e1] at p; exact p.elim
    | some o1 =>
      cases e2 : h[m]? with
      | none => cases o1 <;> (simp [e1, e2] at p; exact p.elim)
      | some o2 =>
        cases o1 <;> cases o2 <;> simp only [e1, e2] at p <;> try exact p.elim
        rename_i xs ys
        obtain ⟨a1, _, f1, v1, g1, r1⟩ := RepV.ref_at rep ra e1
        obtain ⟨a2, _, f2, v2, g2, r2⟩ := RepV.ref_at rep rb e2
        by_cases c : xs.length + ys.length ≤ sizeLine
        · rw [if_pos c] at p
          rw [r1.len, r2.len] at c
          exact op_cat pins s σ H x y v u Q I rx ry ⟨a1, a2, v1, v2, f1, f2, g1, g2, c, fun b hb => Post.lst p rep (r1.append r2) hb⟩
        · rw [if_neg c] at p
          exact p.elim
end
end MP
/-! MPd: further operators, comparisons, truth, subscripts. -/
namespace MP
open PySem L2

def eqO : O2 := fun u v => bnd (eqU u v) fun b => mret (.bl b)
def neO : O2 := fun u v => bnd (eqU u v) fun b => mret (.bl (!b))
section
variable {X : Cx} {ρ : Rho} {h : VH} {H : Hp} {E : XK}
theorem flat_rep {u : U} {x : V} (f : flatU u = true) (r : RepV X.K ρ H u x) : flatV x = true := by
  cases u <;> first | (unfold RepV at r; subst r; rfl) | (exact absurd f (by decide)) | (simp [flatU] at f)
theorem eqF_rep {u w : U} {x y : V} (f : flatU u = true) (g : flatU w = true) (r : RepV X.K ρ H u x) (q : RepV X.K ρ H w y) : eqV x y = eqF u w := by
  cases u <;> first | (simp [flatU] at f; done) | skip
  all_goals (cases w <;> first | (simp [flatU] at g; done) | skip)
  all_goals (unfold RepV at r q; subst r; subst q; rfl)
theorem eq_flat {u w : U} {x y : V} (f : flatU u = true) (g : flatU w = true) (r : RepV X.K ρ H u x) (q : RepV X.K ρ H w y) :
    (scal x y = true ∧ decide (x = y) = eqF u w) ∨ ∃ d e, Dp X.K H x d ∧ Dp X.K H y e ∧ SeqAt.shaped d = true ∧ SeqAt.shaped e = true ∧ PyData.eqv d e = eqF u w := by
  cases u <;> first | (simp [flatU] at f; done) | skip
  all_goals (cases w <;> first | (simp [flatU] at g; done) | skip)
  all_goals (unfold RepV at r q; subst r; subst q)
  case bl.int a b => exact .inr ⟨_, _, .bl a, .int b, rfl, rfl, rfl⟩
  case int.bl a b => exact .inr ⟨_, _, .int a, .bl b, rfl, rfl, rfl⟩
  all_goals refine .inl ⟨rfl, ?_⟩
  all_goals first | rfl | exact decide_eq_false (fun e => nomatch e) | exact dec_int | exact dec_bl | exact dec_str
theorem o_eq (hu : X.A.units + 64 < cLine) : OpR X (compareOp .Eq) (rO X.K X.mg eqO) := by
  rintro pins s σ H x y v u Q I rx ry ⟨E, ρ, h, a, b, rep, ra, rb, p⟩
  unfold eqO bnd eqU at p
  by_cases c : (flatU a && flatU b) = true
  · rw [if_pos c] at p
    obtain ⟨c1, c2⟩ := Bool.and_eq_true_iff.mp c
    have q := Post.v p rep rfl
    rcases eq_flat c1 c2 ra rb with ⟨h1, h2⟩ | ⟨d, e, h1, h2, h3, h4, h5⟩
    · exact op_eq pins s σ H x y v u Q I rx ry ⟨h1, by rw [h2]; exact q⟩
    · exact op_eqD hu pins s σ H x y v u Q I rx ry ⟨d, e, h1, h2, h3, h4, by rw [h5]; exact q⟩
  · rw [if_neg c] at p
    unfold eqD at p
    cases e1 : toD 40 h a with
    | none => simp [e1] at p; exact p.elim
    | some d =>
      cases e2 : toD 40 h b with
      | none => simp [e1, e2] at p; exact p.elim
      | some e =>
        simp only [e1, e2] at p
        by_cases c2 : (SeqAt.shaped d && SeqAt.shaped e) = true
        · rw [if_pos c2] at p
          obtain ⟨s1, s2⟩ := Bool.and_eq_true_iff.mp c2
          exact op_eqD hu pins s σ H x y v u Q I rx ry ⟨d, e, toD_rep rep 40 a d x e1 ra, toD_rep rep 40 b e y e2 rb, s1, s2, Post.v p rep rfl⟩
        · rw [if_neg c2] at p
          exact p.elim
theorem o_ne (hu : X.A.units + 64 < cLine) : OpR X (compareOp .NotEq) (rO X.K X.mg neO) := by
  rintro pins s σ H x y v u Q I rx ry ⟨E, ρ, h, a, b, rep, ra, rb, p⟩
  unfold neO bnd eqU at p
  by_cases c : (flatU a && flatU b) = true
  · rw [if_pos c] at p
    obtain ⟨c1, c2⟩ := Bool.and_eq_true_iff.mp c
    have q := Post.v p rep rfl
    rcases eq_flat c1 c2 ra rb with ⟨h1, h2⟩ | ⟨d, e, h1, h2, h3, h4, h5⟩
    · exact op_ne pins s σ H x y v u Q I rx ry ⟨h1, by rw [h2]; exact q⟩
    · exact op_neD hu pins s σ H x y v u Q I rx ry ⟨d, e, h1, h2, h3, h4, by rw [h5]; exact q⟩
  · rw [if_neg c] at p
    unfold eqD at p
    cases e1 : toD 40 h a with
    | none => simp [e1] at p; exact p.elim
    | some d =>
      cases e2 : toD 40 h b with
      | none => simp [e1, e2] at p; exact p.elim
      | some e =>
        simp only [e1, e2] at p
        by_cases c2 : (SeqAt.shaped d && SeqAt.shaped e) = true
        · rw [if_pos c2] at p
          obtain ⟨s1, s2⟩ := Bool.and_eq_true_iff.mp c2
          exact op_neD hu pins s σ H x y v u Q I rx ry ⟨d, e, toD_rep rep 40 a d x e1 ra, toD_rep rep 40 b e y e2 rb, s1, s2, Post.v p rep rfl⟩
        · rw [if_neg c2] at p
          exact p.elim
theorem non_iff {u : U} {x : V} (r : RepV X.K ρ H u x) : decide (x = .non) = decide (u = .non) := by
  cases u with
  | non => unfold RepV at r; subst r; rfl
  | tup us =>
    unfold RepV at r
    obtain ⟨a, vs, rfl, _⟩ := r
    rw [decide_eq_false (fun e => nomatch e), decide_eq_false (fun e => nomatch e)]
  | ref us =>
    unfold RepV at r
    obtain ⟨a, _, rfl⟩ := r
    rw [decide_eq_false (fun e => nomatch e), decide_eq_false (fun e => nomatch e)]
  | _ =>
    unfold RepV at r
    subst r
    rw [decide_eq_false (fun e => nomatch e), decide_eq_false (fun e => nomatch e)]
theorem o_is : OpR X (compareOp .Is) (rO X.K X.mg isNU) := by
  rintro pins s σ H x y v u Q I rx ry ⟨E, ρ, h, a, b, rep, ra, rb, p⟩
  cases b with
  | non =>
    have hn := non_iff ra
    unfold RepV at rb
    exact op_isN pins s σ H x y v u Q I rx ry ⟨rb, by rw [hn]; exact Post.v p rep rfl⟩
  | bl b =>
    cases a with
    | bl c =>
      unfold RepV at ra rb
      exact op_isBl pins s σ H x y v u Q I rx ry ⟨c, b, ra, rb, Post.v p rep rfl⟩
    | _ => exact p.elim
  | _ => exact p.elim
theorem o_isnot : OpR X (compareOp .IsNot) (rO X.K X.mg notNU) := by
  rintro pins s σ H x y v u Q I rx ry ⟨E, ρ, h, a, b, rep, ra, rb, p⟩
  cases b with
  | non =>
    have hn := non_iff ra
    unfold RepV at rb
    exact op_notN pins s σ H x y v u Q I rx ry ⟨rb, by rw [hn]; exact Post.v p rep rfl⟩
  | bl b =>
    cases a with
    | bl c =>
      unfold RepV at ra rb
      exact op_notBl pins s σ H x y v u Q I rx ry ⟨c, b, ra, rb, Post.v p rep rfl⟩
    | _ => exact p.elim
  | _ => exact p.elim
theorem u_neg : UnR X (unaryOp .USub) (fun x H Q => ∃ E ρ h u, RepH X.K X.mg ρ h H ∧ RepV X.K ρ H u x ∧ Post X.K X.mg E (RV X.K Q) ρ H (negU u h)) := by
  rintro pins s σ H x v Q I rx ⟨E, ρ, h, a, rep, ra, p⟩
  cases a <;> try exact p.elim
  rename_i i
  unfold RepV at ra
  exact un_neg pins s σ H x v Q I rx ⟨i, ra, Post.v p rep rfl⟩
theorem flats_rep : ∀ {us : List U} {vs : List V}, us.all flatU = true → RepVs X.K ρ H us vs → vs.all flatV = true
  | [], vs, _, r => by unfold RepVs at r; subst r; rfl
  | u :: us, vs, f, r => by
    unfold RepVs at r
    obtain ⟨v, z, rfl, r1, r2⟩ := r
    rw [List.all_cons, Bool.and_eq_true] at f ⊢
    exact ⟨flat_rep f.1 r1, flats_rep f.2 r2⟩
theorem anys_rep {u : U} {x : V} (f : flatU u = true) (r : RepV X.K ρ H u x) : ∀ {us : List U} {vs : List V}, us.all flatU = true → RepVs X.K ρ H us vs → inV x vs = us.any fun z => eqF z u
  | [], vs, _, q => by unfold RepVs at q; subst q; rfl
  | w :: us, vs, g, q => by
    unfold RepVs at q
    obtain ⟨v, z, rfl, r1, r2⟩ := q
    rw [List.all_cons, Bool.and_eq_true] at g
    show (eqV v x || inV x z) = (eqF w u || us.any fun z => eqF z u)
    rw [eqF_rep g.1 f r1 r, anys_rep f r g.2 r2]
/-- what in asks, for both answers -/
theorem in_any {E : XK} {Q : VK} {f : Bool → Bool} {a b : U} {x y : V} (rep : RepH X.K X.mg ρ h H) (ra : RepV X.K ρ H a x) (rb : RepV X.K ρ H b y) (hd : ∀ n kvs, b = .ref n → h[n]? ≠ some (.dct kvs))
    (p : Post X.K X.mg E (RV X.K Q) ρ H (bnd (inB a b) (fun k => mret (.bl (f k))) h)) :
    (∃ (c : Nat) (z : Str), x = .str ⟨#[c]⟩ ∧ y = .str z ∧ Q (.bl (f (decide (c ∈ z.cps.toList)))) H) ∨
    (∃ q xs, y = .ref q ∧ (SqL X.K H q xs ∨ SqT X.K H q xs) ∧ flatV x = true ∧ xs.all flatV = true ∧ Q (.bl (f (inV x xs))) H) ∨
    (∃ d ds, Dp X.K H x d ∧ Dp X.K H y (.list ds) ∧ SeqAt.shaped d = true ∧ SeqAt.shaped (.list ds) = true ∧ Q (.bl (f (ds.any fun z => PyData.eqv z d))) H) := by
  unfold bnd at p
  cases b with
  | str z =>
    unfold inB at p
    cases a with
    | str w =>
      unfold RepV at ra rb
      cases e : w.cps.toList with
      | nil => simp [e] at p; exact p.elim
      | cons c r =>
        cases r with
        | cons d r => simp [e] at p; exact p.elim
        | nil =>
          simp only [e] at p
          have q := Post.v p rep rfl
          have ew : w = ⟨#[c]⟩ := by
            obtain ⟨cs⟩ := w
            have : cs = #[c] := by
              apply Array.ext'
              exact e
            rw [this]
          exact .inl ⟨c, z, by rw [ra, ew], rb, q⟩
    | _ => exact p.elim
  | tup us =>
    unfold inB at p
    simp only at p
    by_cases c : (flatU a && us.all flatU) = true
    · rw [if_pos c] at p
      obtain ⟨c1, c2⟩ := Bool.and_eq_true_iff.mp c
      unfold RepV at rb
      obtain ⟨q, vs, e1, e2, e3⟩ := rb
      exact .inr (.inl ⟨q, vs, e1, .inr e2.sqT, flat_rep c1 ra, flats_rep c2 e3, by rw [anys_rep c1 ra c2 e3]; exact Post.v p rep rfl⟩)
    · rw [if_neg c] at p
      exact p.elim
  | ref n =>
    have e0 : inB a (.ref n) h = inL a h (lstOf h (.ref n)) := by
      unfold inB
      cases e1 : h[n]? with
      | none => simp only [e1]
      | some o =>
        cases o with
        | dct kvs => exact absurd e1 (hd n kvs rfl)
        | _ => simp only [e1]
    rw [e0] at p
    unfold inL at p
    have p2 := p
    cases e1 : lstOf h (.ref n) with
    | none => rw [e1] at p2; exact p2.elim
    | some xs =>
      rw [e1] at p2
      simp only at p2
      obtain ⟨q, vs, e2, e3, e4⟩ := lstOf_rep rep rb e1
      by_cases c : (flatU a && xs.all flatU) = true
      · rw [if_pos c] at p2
        obtain ⟨c1, c2⟩ := Bool.and_eq_true_iff.mp c
        exact .inr (.inl ⟨q, vs, e2, .inl e3, flat_rep c1 ra, flats_rep c2 e4, by rw [anys_rep c1 ra c2 e4]; exact Post.v p2 rep rfl⟩)
      · rw [if_neg c] at p2
        cases d1 : toD 40 h a with
        | none => simp [d1] at p2; exact p2.elim
        | some d =>
          cases d2 : mapO (toD 40 h) xs with
          | none => simp [d1, d2] at p2; exact p2.elim
          | some ds =>
            simp only [d1, d2] at p2
            by_cases c2 : (SeqAt.shaped d && SeqAt.shaped (.list ds)) = true
            · rw [if_pos c2] at p2
              obtain ⟨s1, s2⟩ := Bool.and_eq_true_iff.mp c2
              refine .inr (.inr ⟨d, ds, toD_rep rep 40 a d x d1 ra, ?_, s1, s2, Post.v p2 rep rfl⟩)
              rw [e2]
              exact .lst e3 (toDs_rep (toD_rep rep 40) xs ds vs d2 e4)
            · rw [if_neg c2] at p2
              exact p2.elim
  | _ => exact p.elim
theorem tru_rep {u : U} {x : V} {b : Bool} (rep : RepH X.K X.mg ρ h H) (r : RepV X.K ρ H u x) (e : truB u h = .ok b h) (hd : ∀ n kvs, u = .ref n → h[n]? ≠ some (.dct kvs)) : TruV X.K x H b := by
  unfold truB at e
  cases u with
  | non => unfold RepV at r; subst r; injection e with e1; exact e1.symm
  | bl k => unfold RepV at r; subst r; injection e with e1; exact e1.symm
  | int k => unfold RepV at r; subst r; injection e with e1; exact e1.symm
  | str z =>
    unfold RepV at r
    subst r
    simp only at e
    by_cases c : z.length ≤ sizeLine
    · rw [if_pos c] at e
      injection e with e1
      refine ⟨c, ?_⟩
      rw [← e1]
      cases z.length <;> rfl
    · rw [if_neg c] at e
      cases e
  | tup us =>
    unfold RepV at r
    obtain ⟨a, vs, rfl, e2, e3⟩ := r
    injection e with e1
    refine .inr (.inl ⟨vs, e2.sqT, ?_⟩)
    rw [← e1]
    have := e3.len
    cases us <;> cases vs <;> first | rfl | cases this
  | ref n =>
    simp only at e
    cases e1 : h[n]? with
    | none => simp [e1] at e
    | some o =>
      obtain ⟨a, _, rfl, ro⟩ := RepV.ref_at rep r e1
      have key : ∀ xs, (o = .lst xs ∨ o = .frz xs) → b = !xs.isEmpty → TruV X.K (.ref a) H b := fun xs ho e => by
        obtain ⟨vs, h1, h2⟩ := ro.sqL ho
        refine .inl ⟨vs, h1, ?_⟩
        rw [e]
        have := h2.len
        cases xs <;> cases vs <;> first | rfl | cases this
      cases o with
      | lst xs =>
        simp only [e1] at e
        injection e with e2
        exact key xs (.inl rfl) e2.symm
      | frz xs =>
        simp only [e1] at e
        injection e with e2
        exact key xs (.inr rfl) e2.symm
      | dct kvs => exact absurd e1 (hd n kvs rfl)
      | ins c fs => simp [e1] at e
theorem truB_ok {u : U} {b : Bool} {h' : VH} (e : truB u h = .ok b h') : h' = h := by
  unfold truB at e
  cases u with
  | str z =>
    simp only at e
    split at e
    · injection e with _ e2; exact e2.symm
    · cases e
  | ref n =>
    simp only at e
    split at e <;> first | (injection e with _ e2; exact e2.symm) | cases e
  | _ => injection e with _ e2; exact e2.symm
theorem truB_exc {u : U} {c : Str} {fs : Fs} {h' : VH} (e : truB u h = .exc c fs h') : False := by
  unfold truB at e
  cases u with
  | str z =>
    simp only at e
    split at e <;> cases e
  | ref n =>
    simp only at e
    split at e <;> cases e
  | _ => cases e
end
end MP
/-! MPe: in, subscripts, slices, stores, built-in functions, methods of lists and tuples and texts. -/
namespace MP
open PySem L2

section
variable (K : PySem.W.Frag) (mg : Str → Option Value)
def rS (f : U → Option Int → Option Int → M U) : V → Option Int → Option Int → Hp → VK → Prop := fun x lo hi H Q => ∃ E ρ h u, RepH K mg ρ h H ∧ RepV K ρ H u x ∧ Post K mg E (RV K Q) ρ H (f u lo hi h)
def rC (f : List U → M U) : List V → Hp → VK → Prop := fun xs H Q => ∃ E ρ h us, RepH K mg ρ h H ∧ RepVs K ρ H us xs ∧ Post K mg E (RV K Q) ρ H (f us h)
def rMt (f : U → List U → M U) : V → List V → Hp → VK → Prop := fun x xs H Q => ∃ E ρ h u us, RepH K mg ρ h H ∧ RepV K ρ H u x ∧ RepVs K ρ H us xs ∧ Post K mg E (RV K Q) ρ H (f u us h)
def rSet (f : U → U → U → M Unit) : TSet := fun o i v H Q => ∃ E ρ h u w z, RepH K mg ρ h H ∧ RepV K ρ H u o ∧ RepV K ρ H w i ∧ RepV K ρ H z v ∧ Post K mg E (fun _ _ H' => Q H') ρ H (f u w z h)
end
section
variable {X : Cx} {ρ : Rho} {h : VH} {H : Hp} {E : XK}
theorem o_in (hu : X.A.units + 65 < cLine) : OpR X (compareOp .In) (rO X.K X.mg inU) := by
  rintro pins s σ H x y v u Q I rx ry ⟨E, ρ, h, a, b, rep, ra, rb, p⟩
  rcases in_any (f := fun b => b) rep ra rb (fun n kvs hb e => by
    subst hb
    unfold inU bnd inB at p
    simp only [e] at p
    exact p.elim) p with ⟨c, z, h1, h2, q⟩ | ⟨a1, xs, h1, h2, h3, h4, q⟩ | ⟨d, ds, h1, h2, h3, h4, q⟩
  · exact op_in_sign pins s σ H x y v u Q I rx ry ⟨c, z, h1, h2, q⟩
  · exact op_in_seq pins s σ H x y v u Q I rx ry ⟨a1, xs, h1, h2, h3, h4, q⟩
  · exact op_inD hu pins s σ H x y v u Q I rx ry ⟨d, ds, h1, h2, h3, h4, q⟩
theorem o_notin (hu : X.A.units + 65 < cLine) : OpR X (compareOp .NotIn) (rO X.K X.mg notInU) := by
  rintro pins s σ H x y v u Q I rx ry ⟨E, ρ, h, a, b, rep, ra, rb, p⟩
  rcases in_any (f := fun b => !b) rep ra rb (fun n kvs hb e => by
    subst hb
    unfold notInU bnd inB at p
    simp only [e] at p
    exact p.elim) p with ⟨c, z, h1, h2, q⟩ | ⟨a1, xs, h1, h2, h3, h4, q⟩ | ⟨d, ds, h1, h2, h3, h4, q⟩
  · exact op_notIn_sign pins s σ H x y v u Q I rx ry ⟨c, z, h1, h2, q⟩
  · exact op_notIn_seq pins s σ H x y v u Q I rx ry ⟨a1, xs, h1, h2, h3, h4, q⟩
  · exact op_notInD hu pins s σ H x y v u Q I rx ry ⟨d, ds, h1, h2, h3, h4, q⟩
theorem o_mul : OpR X (binaryOp .Mult) (rO X.K X.mg mulU) := by
  rintro pins s σ H x y v u Q I rx ry ⟨E, ρ, h, a, b, rep, ra, rb, p⟩
  cases b with
  | int k =>
    unfold RepV at rb
    cases a with
    | int i =>
      unfold RepV at ra
      simp only [mulU] at p
      by_cases c : (-(2 ^ 64) < i ∧ i < 2 ^ 64) ∨ (-(2 ^ 64) < k ∧ k < 2 ^ 64)
      · rw [if_pos c] at p
        exact op_mul pins s σ H x y v u Q I rx ry ⟨i, k, ra, rb, c, Post.v p rep rfl⟩
      · rw [if_neg c] at p
        exact p.elim
    | str z =>
      unfold RepV at ra
      simp only [mulU] at p
      by_cases c : 1 ≤ z.length ∧ 1 ≤ k ∧ z.length * k.toNat ≤ 1000000
      · rw [if_pos c] at p
        exact op_repS pins s σ H x y v u Q I rx ry ⟨z, k, ra, rb, c.1, c.2.1, c.2.2, Post.v p rep rfl⟩
      · rw [if_neg c] at p
        exact p.elim
    | tup xs =>
      unfold RepV at ra
      obtain ⟨a1, vs, e1, e2, e3⟩ := ra
      simp only [mulU] at p
      by_cases c : xs ≠ [] ∧ 1 ≤ k ∧ k ≤ 1000 ∧ xs.length ≤ 1000
      · rw [if_pos c] at p
        have hl := e3.len
        refine op_repN pins s σ H x y v u Q I rx ry ⟨a1, k, vs, e1, rb, e2.sqT, fun z => c.1 ?_, c.2.1, c.2.2.1, by rw [← hl]; exact c.2.2.2, fun hk => ?_, fun _ => Post.tup p rep (e3.rep _)⟩
        · subst z
          exact List.eq_nil_of_length_eq_zero hl
        · subst hk
          have er : (List.replicate (1 : Int).toNat xs).flatten = xs := by
            show (List.replicate 1 xs).flatten = xs
            simp
          rw [er] at p
          exact Post.v p rep (by unfold RepV; exact ⟨a1, vs, rfl, e2, e3⟩)
      · rw [if_neg c] at p
        exact p.elim
    | ref n =>
      simp only [mulU] at p
      cases e1 : h[n]? with
      | none => simp only [e1] at p; exact p.elim
      | some o =>
        cases o with
        | lst xs =>
          simp only [e1] at p
          obtain ⟨a1, _, f1, v1, g1, r1⟩ := RepV.ref_at rep ra e1
          by_cases c : -(2 ^ 63) ≤ k ∧ k < 2 ^ 63 ∧ xs.length * k.toNat ≤ sizeLine
          · rw [if_pos c] at p
            exact op_rep pins s σ H x y v u Q I rx ry ⟨a1, k, v1, f1, rb, g1, c.1, c.2.1, by rw [← r1.len]; exact c.2.2, fun b hb => Post.lst p rep (r1.rep _) hb⟩
          · rw [if_neg c] at p
            exact p.elim
        | _ => simp only [e1] at p; exact p.elim
    | _ => exact p.elim
  | _ => cases a <;> exact p.elim
theorem atI_rep {us : List U} {vs : List V} {i : Int} {u : U} (r : RepVs X.K ρ H us vs) (e : L2.atI us i = some u) : ∃ v, L2.atI vs i = some v ∧ RepV X.K ρ H u v := by
  unfold L2.atI at e ⊢
  rw [r.len] at e
  cases e1 : L2.ixN vs.length i with
  | none => rw [e1] at e; cases e
  | some j =>
    rw [e1] at e
    exact r.get (i := j) (by simpa using e)
theorem dct_get {K : PySem.W.Frag} {b : U} {y : V} {w : U} (rb : RepV K ρ H b y) : ∀ {kvs : List (U × U)} {hk : List (Key × V)}, RepKs K ρ H kvs hk → kvs.lookup b = some w → ∃ k z, y = kV k ∧ valV hk k = some z ∧ RepV K ρ H w z
  | [], _, _, e => by cases e
  | p :: r, hk, g, e => by
    unfold RepKs at g
    obtain ⟨k, v, r2, rfl, g1, g2, g3⟩ := g
    obtain ⟨p1, p2⟩ := p
    rw [List.lookup_cons] at e
    by_cases c : b = p1
    · subst c
      rw [beq_self_eq_true] at e
      cases e
      refine ⟨k, v, ?_, valV_pos rfl, g2⟩
      have flat : ∀ (k : Key) (x : V), RepV K ρ H b (kV k) → RepV K ρ H b x → x = kV k := fun k x a1 a2 => by
        cases b with
        | tup us => unfold RepV at a1; obtain ⟨_, _, z, _⟩ := a1; cases k <;> cases z
        | ref n => unfold RepV at a1; obtain ⟨_, _, z⟩ := a1; cases k <;> cases z
        | _ => unfold RepV at a1 a2; rw [a1, a2]
      exact flat k y g1 rb
    · rw [beq_eq_false_iff_ne.mpr c] at e
      obtain ⟨k', z, h1, h2, h3⟩ := dct_get rb g3 e
      refine ⟨k', z, h1, ?_, h3⟩
      have hne : ¬ k = k' := fun z => by
        subst z
        rw [h1] at rb
        apply c
        cases b with
        | tup us => unfold RepV at rb; obtain ⟨_, _, z, _⟩ := rb; cases k <;> cases z
        | ref n => unfold RepV at rb; obtain ⟨_, _, z⟩ := rb; cases k <;> cases z
        | _ =>
          unfold RepV at rb
          cases p1 with
          | tup us => unfold RepV at g1; obtain ⟨_, _, z, _⟩ := g1; cases k <;> cases z
          | ref n => unfold RepV at g1; obtain ⟨_, _, z⟩ := g1; cases k <;> cases z
          | _ => unfold RepV at g1; have z := g1.symm.trans rb; first | (cases z; done) | (cases z; rfl)
      rw [valV_neg hne]
      exact h2
theorem ix_get (hu : X.A.units + 1 < cLine) : IxR X (rO X.K X.mg getU) := by
  rintro value slice pins s σ H x y v u Q I rx ry ⟨E, ρ, h, a, b, rep, ra, rb, p⟩ hs
  have seq : ∀ {xs : List U} {k : Int}, b = .int k → Post X.K X.mg E (RV X.K Q) ρ H (ofO (L2.atI xs k) h) → (∃ q vs, x = .ref q ∧ (SqL X.K H q vs ∨ SqT X.K H q vs) ∧ RepVs X.K ρ H xs vs) →
      wpAny (model X.prog X.w) X.A (PyProof.Rows.subscriptTail value slice v u) (EP X pins σ Q) X.xe s := fun {xs k} hb pp ⟨q, vs, e1, e2, e3⟩ => by
    subst hb
    unfold RepV at rb
    cases e : L2.atI xs k with
    | none => rw [e] at pp; exact pp.elim
    | some w =>
      rw [e] at pp
      have pp : Post X.K X.mg E (RV X.K Q) ρ H (.ok w h) := pp
      obtain ⟨z, h1, h2⟩ := atI_rep e3 e
      refine ix_seq value slice pins s σ H x y v u Q I rx ry ?_ hs
      rcases e2 with e2 | e2
      · exact .inl ⟨q, vs, k, z, e1, rb, e2, h1, Post.v pp rep h2⟩
      · exact .inr (.inl ⟨q, vs, k, z, e1, rb, e2, h1, Post.v pp rep h2⟩)
  cases a with
  | tup xs =>
    unfold RepV at ra
    obtain ⟨a1, vs, e1, e2, e3⟩ := ra
    cases b with
    | int k => exact seq rfl (by simpa only [getU] using p) ⟨a1, vs, e1, .inr e2.sqT, e3⟩
    | _ => exact p.elim
  | str z =>
    cases b with
    | int k =>
      unfold RepV at ra rb
      simp only [getU] at p
      by_cases c : z.length ≤ sizeLine
      · rw [if_pos c] at p
        cases e : L2.atI z.cps.toList k with
        | none => rw [e] at p; exact p.elim
        | some w =>
          rw [e] at p
          have p : Post X.K X.mg E (RV X.K Q) ρ H (.ok (.str ⟨#[w]⟩) h) := p
          exact ix_seq value slice pins s σ H x y v u Q I rx ry (.inr (.inr ⟨z, k, w, ra, rb, c, e, Post.v p rep rfl⟩)) hs
      · rw [if_neg c] at p
        exact p.elim
    | _ => exact p.elim
  | ref n =>
    cases e1 : h[n]? with
    | none => cases b <;> (simp only [getU, e1] at p; exact p.elim)
    | some o =>
      obtain ⟨a1, _, f1, ro⟩ := RepV.ref_at rep ra e1
      cases o with
      | lst xs =>
        obtain ⟨vs, g1, g2⟩ := ro.sqL (.inl rfl)
        cases b with
        | int k => exact seq rfl (by simpa only [getU, e1] using p) ⟨a1, vs, f1, .inl g1, g2⟩
        | _ => simp only [getU, e1] at p; exact p.elim
      | frz xs =>
        obtain ⟨vs, g1, g2⟩ := ro.sqL (.inr rfl)
        cases b with
        | int k => exact seq rfl (by simpa only [getU, e1] using p) ⟨a1, vs, f1, .inl g1, g2⟩
        | _ => simp only [getU, e1] at p; exact p.elim
      | dct kvs =>
        obtain ⟨hk, g1, g2, g3⟩ := ro
        simp only [getU, e1] at p
        cases e2 : kvs.lookup b with
        | none => rw [e2] at p; exact p.elim
        | some w =>
          rw [e2] at p
          have p : Post X.K X.mg E (RV X.K Q) ρ H (.ok w h) := p
          obtain ⟨k, z, k1, k2, k3⟩ := dct_get rb g2 e2
          subst f1
          obtain rfl : v = Value.ref a1 := rx
          have gg : DGet H a1 y (some z) := k2 ▸ k1 ▸ DGet.k g1
          exact PyProof.Rows.tail_any (dict_typeIs I gg) PySem.F.slot_dict_getitem.lookup (d_getItem hu I gg ry fun w' s3 I3 rw' => ⟨z, H, I3, rw', Post.v p rep k3⟩) hs
      | ins c fs => cases b <;> (simp only [getU, e1] at p; exact p.elim)
  | _ => cases b <;> exact p.elim
theorem cut_rep {us : List U} {vs : List V} {lo hi : Option Int} (r : RepVs X.K ρ H us vs) : RepVs X.K ρ H (cutU us lo hi) (L2.cutV vs lo hi) := by
  unfold cutU L2.cutV
  rw [r.len]
  exact (r.drop _).take _
theorem sl_cut : SlR X (rS X.K X.mg slU) := by
  rintro pins s σ H x v vl vu lo hi sl Q I rx hs pl pu ⟨E, ρ, h, a, rep, ra, p⟩
  cases a with
  | tup xs =>
    unfold RepV at ra
    obtain ⟨a1, vs, e1, e2, e3⟩ := ra
    have rv := cut_rep (lo := lo) (hi := hi) e3
    refine sl_tupN pins s σ H x v vl vu lo hi sl Q I rx hs pl pu ⟨a1, vs, e1, e2.sqT, fun hw => ?_, fun _ => Post.tup p rep rv⟩
    have ec : L2.cutV vs lo hi = vs := by
      unfold L2.cutV
      rw [hw.1, hw.2]
      simp
    rw [ec] at rv
    exact Post.v p rep (by unfold RepV; exact ⟨a1, vs, rfl, e2, rv⟩)
  | ref n =>
    unfold slU at p
    cases e1 : lstOf h (.ref n) with
    | none => simp only [e1] at p; exact p.elim
    | some xs =>
      simp only [e1] at p
      obtain ⟨a1, vs, f1, g1, g2⟩ := lstOf_rep rep ra e1
      exact sl_list pins s σ H x v vl vu lo hi sl Q I rx hs pl pu ⟨a1, vs, f1, g1, fun b hb => Post.lst p rep (cut_rep g2) hb⟩
  | _ => exact p.elim
theorem Post.wr {α : Type} {R : α → Rho → Hp → Prop} {K : PySem.W.Frag} {mg : Str → Option Value} {n : Nat} {a : Addr} {vo vo' : VO} {o u : HO} {x : α} (p : Post K mg E R ρ H (.ok x (h.set n vo'))) (r : RepH K mg ρ h H) (e1 : h[n]? = some vo) (hw : ∀ xs, vo ≠ .frz xs) (e2 : ρ[n]? = some a) (hw' : ∀ xs, vo' ≠ .frz xs)
    (hu : H a = some u) (hz : ∀ z w, u ≠ .frz z w) (new : RepO K mg ρ (upd H a o) a vo') : R x ρ (upd H a o) :=
  p ρ _ (.write (r.pos e1 hw) e2 hu hz) (r.write e1 hw e2 hw' new)
theorem set_U : PSet X (rSet X.K X.mg setU) := by
  rintro pins s σ H o i v ov iv u Q I ro ri rv ⟨E, ρ, h, a, b, c, rep, ra, rb, rc, p⟩
  cases a with
  | ref n =>
    unfold setU at p
    cases e1 : h[n]? with
    | none => simp only [e1] at p; exact p.elim
    | some vo =>
      obtain ⟨a1, r1, f1, q⟩ := RepV.ref_at rep ra e1
      cases vo with
      | lst xs =>
        simp only [e1] at p
        cases b with
        | int k =>
          simp only at p
          obtain ⟨vs, g1, g2⟩ := q
          cases e2 : L2.ixN xs.length k with
          | none => simp only [e2] at p; exact p.elim
          | some j =>
            simp only [e2] at p
            unfold RepV at rb
            refine set_list pins s σ H o i v ov iv u Q I ro ri rv ⟨a1, vs, k, j, f1, rb, g1, by rw [← g2.len]; exact e2, ?_⟩
            have x : Ext ρ H ρ (upd H a1 (.lst (vs.set j v))) := .write (rep.pos e1 (fun _ z => nomatch z)) r1 g1 (fun _ _ z => nomatch z)
            exact Post.wr p rep e1 (fun _ z => nomatch z) r1 (fun _ z => nomatch z) g1 (fun _ _ z => nomatch z) ⟨_, upd_same, (g2.ext x).set j (rc.ext x)⟩
        | _ => exact p.elim
      | _ => simp only [e1] at p; exact p.elim
  | _ => exact p.elim
/-! ### built-in functions -/
theorem rep1 {K : PySem.W.Frag} {us : List U} {u : U} {xs : List V} (e : us = [u]) (r : RepVs K ρ H us xs) : ∃ x, xs = [x] ∧ RepV K ρ H u x := by
  subst e
  obtain ⟨v, z, rfl, r1, r2⟩ := r
  unfold RepVs at r2
  subst r2
  exact ⟨v, rfl, r1⟩
theorem rep2 {K : PySem.W.Frag} {us : List U} {u w : U} {xs : List V} (e : us = [u, w]) (r : RepVs K ρ H us xs) : ∃ x y, xs = [x, y] ∧ RepV K ρ H u x ∧ RepV K ρ H w y := by
  subst e
  obtain ⟨v, z, rfl, r1, r2⟩ := r
  obtain ⟨y, rfl, r3⟩ := rep1 rfl r2
  exact ⟨v, y, rfl, r1, r3⟩
theorem c_len : CallR X (.builtin "len") (rC X.K X.mg lenU) := by
  rintro pins s σ H xs us Q I r ⟨E, ρ, h, as, rep, rs, p⟩
  unfold lenU at p
  match as, rs, p with
  | [], _, p => exact p.elim
  | _ :: _ :: _, _, p => exact p.elim
  | [a], rs, p =>
    obtain ⟨x, rfl, rx⟩ := rep1 rfl rs
    have key : ∀ {ws : List U} {q : Addr} {vs : List V}, x = .ref q → (SqL X.K H q vs ∨ SqT X.K H q vs) → RepVs X.K ρ H ws vs → Post X.K X.mg E (RV X.K Q) ρ H (.ok (.int ws.length) h) → wpAny (model X.prog X.w) X.A (call (.builtin "len") us) (EP X pins σ Q) X.xe s := fun {ws q vs} e1 e2 e3 p => by
      have q1 := Post.v (v := .int ws.length) p rep rfl
      rw [e3.len] at q1
      exact call_len_seq pins s σ H _ us Q I r ⟨q, vs, by rw [e1], e2, q1⟩
    cases a with
    | str z =>
      unfold RepV at rx
      simp only at p
      by_cases c : z.length ≤ sizeLine
      · rw [if_pos c] at p
        exact call_len_str pins s σ H _ us Q I r ⟨z, by rw [rx], c, Post.v p rep rfl⟩
      · rw [if_neg c] at p
        exact p.elim
    | tup ws =>
      unfold RepV at rx
      obtain ⟨q, vs, e1, e2, e3⟩ := rx
      exact key e1 (.inr e2.sqT) e3 p
    | ref n =>
      simp only at p
      have e0 : lstOf h (.ref n) = match h[n]? with
        | some (.lst xs) => some xs
        | some (.frz xs) => some xs
        | _ => none := rfl
      cases e1 : h[n]? with
      | none => simp only [e1, e0] at p; exact p.elim
      | some o =>
        cases o with
        | dct kvs => simp only [e1] at p; exact p.elim
        | lst ws =>
          simp only [e1, e0] at p
          obtain ⟨q, vs, f1, f2, f3⟩ := lstOf_rep (xs := ws) rep rx (by rw [e0, e1])
          exact key f1 (.inl f2) f3 p
        | frz ws =>
          simp only [e1, e0] at p
          obtain ⟨q, vs, f1, f2, f3⟩ := lstOf_rep (xs := ws) rep rx (by rw [e0, e1])
          exact key f1 (.inl f2) f3 p
        | ins c fs => simp only [e1, e0] at p; exact p.elim
    | _ => exact p.elim
theorem c_int : CallR X (.type "int") (rC X.K X.mg intF) := by
  rintro pins s σ H xs us Q I r ⟨E, ρ, h, as, rep, rs, p⟩
  unfold intF at p
  split at p
  · obtain ⟨x, rfl, rx⟩ := rep1 rfl rs
    unfold RepV at rx
    exact call_int1 pins s σ H _ us Q I r (.inl ⟨_, by rw [rx], Post.v p rep rfl⟩)
  · obtain ⟨x, rfl, rx⟩ := rep1 rfl rs
    unfold RepV at rx
    exact call_int1 pins s σ H _ us Q I r (.inr ⟨_, by rw [rx], Post.v p rep rfl⟩)
  · exact p.elim
theorem c_tuple : CallR X (.type "tuple") (rC X.K X.mg tupF) := by
  rintro pins s σ H xs us Q I r ⟨E, ρ, h, as, rep, rs, p⟩
  unfold tupF at p
  match as, rs, p with
  | [], _, p => exact p.elim
  | _ :: _ :: _, _, p => exact p.elim
  | [a], rs, p =>
    obtain ⟨x, rfl, rx⟩ := rep1 rfl rs
    cases a with
    | tup ws =>
      have p' : Post X.K X.mg E (RV X.K Q) ρ H (.ok (.tup ws) h) := p
      have q := Post.v p' rep rx
      unfold RepV at rx
      obtain ⟨a1, vs, e1, e2, e3⟩ := rx
      subst e1
      exact call_tupleN pins s σ H _ us Q I r ⟨a1, vs, rfl, .inr ⟨e2.sqT, q⟩⟩
    | ref n =>
      have es : seqOf h (.ref n) = lstOf h (.ref n) := rfl
      cases e1 : lstOf h (.ref n) with
      | none => simp only [es, e1] at p; exact p.elim
      | some ws =>
        simp only [es, e1] at p
        obtain ⟨q, vs, f1, f2, f3⟩ := lstOf_rep rep rx e1
        subst f1
        exact call_tupleN pins s σ H _ us Q I r ⟨q, vs, rfl, .inl ⟨f2, Post.tup p rep f3⟩⟩
    | _ => exact p.elim
theorem c_list : CallR X (.type "list") (rC X.K X.mg listF) := by
  rintro pins s σ H xs us Q I r ⟨E, ρ, h, as, rep, rs, p⟩
  unfold listF at p
  match as, rs, p with
  | [], _, p => exact p.elim
  | _ :: _ :: _, _, p => exact p.elim
  | [a], rs, p =>
    obtain ⟨x, rfl, rx⟩ := rep1 rfl rs
    simp only at p
    cases e1 : seqOf h a with
    | none =>
      simp only [e1] at p
      cases a with
      | ref n =>
        simp only at p
        cases e2 : h[n]? with
        | none => simp only [e2] at p; exact p.elim
        | some o =>
          cases o with
          | _ => simp only [e2] at p; exact p.elim
      | _ => exact p.elim
    | some ws =>
      simp only [e1] at p
      obtain ⟨q, vs, f1, f2, f3⟩ := seqOf_rep rep rx e1
      subst f1
      exact call_list_of pins s σ H _ us Q I r ⟨q, vs, rfl, f2.imp (fun z => z) (fun z => z.sqT), fun b hb => Post.lst p rep f3 hb⟩
theorem toI_rep (u : U) (a : Int) (v : V) (e : toI u = some a) (r : RepV X.K ρ H u v) : v = .int a := by
  cases u <;> first | (cases e; done) | skip
  unfold RepV at r
  have e' : _ = a := Option.some.inj e
  rw [r, e']
theorem toBl_rep (u : U) (a : Bool) (v : V) (e : toBl u = some a) (r : RepV X.K ρ H u v) : v = .bl a := by
  cases u <;> first | (cases e; done) | skip
  unfold RepV at r
  have e' : _ = a := Option.some.inj e
  rw [r, e']
theorem toS_rep (u : U) (a : Str) (v : V) (e : toS u = some a) (r : RepV X.K ρ H u v) : v = .str a := by
  cases u <;> first | (cases e; done) | skip
  unfold RepV at r
  have e' : _ = a := Option.some.inj e
  rw [r, e']
theorem intsOf_rep (rep : RepH X.K X.mg ρ h H) {u : U} {x : V} {ns : List Int} (rx : RepV X.K ρ H u x) (e : intsOf h u = some ns) : ∃ a, x = .ref a ∧ SqL X.K H a (ns.map V.int) := by
  unfold intsOf at e
  cases e1 : lstOf h u with
  | none => rw [e1] at e; cases e
  | some xs =>
    rw [e1] at e
    obtain ⟨a, vs, f1, f2, f3⟩ := lstOf_rep rep rx e1
    have e' := RepVs.mapO (g := V.int) (fun u a v => toI_rep u a v) e f3
    subst e'
    exact ⟨a, f1, f2⟩
theorem blsOf_rep (rep : RepH X.K X.mg ρ h H) {u : U} {x : V} {ns : List Bool} (rx : RepV X.K ρ H u x) (e : blsOf h u = some ns) : ∃ a, x = .ref a ∧ SqL X.K H a (ns.map V.bl) := by
  unfold blsOf at e
  cases e1 : lstOf h u with
  | none => rw [e1] at e; cases e
  | some xs =>
    rw [e1] at e
    obtain ⟨a, vs, f1, f2, f3⟩ := lstOf_rep rep rx e1
    have e' := RepVs.mapO (g := V.bl) (fun u a v => toBl_rep u a v) e f3
    subst e'
    exact ⟨a, f1, f2⟩
end
end MP
/-! MPf: further built-in functions, methods. -/
namespace MP
open PySem L2

theorem insI_perm (x : Int) : ∀ l : List Int, (insI x l).Perm (x :: l)
  | [] => List.Perm.refl _
  | y :: r => by
    unfold insI
    split
    · exact List.Perm.refl _
    · exact ((insI_perm x r).cons y).trans (List.Perm.swap x y r)
theorem sortI_perm : ∀ l : List Int, (sortI l).Perm l
  | [] => List.Perm.refl _
  | x :: r => (insI_perm x (sortI r)).trans ((sortI_perm r).cons x)
theorem insI_sorted (x : Int) : ∀ l : List Int, l.Pairwise (· ≤ ·) → (insI x l).Pairwise (· ≤ ·)
  | [], _ => by simp [insI]
  | y :: r, h => by
    rw [List.pairwise_cons] at h
    unfold insI
    split
    · rename_i c
      rw [List.pairwise_cons]
      refine ⟨fun z hz => ?_, List.pairwise_cons.mpr h⟩
      rcases List.mem_cons.mp hz with rfl | hz
      · exact c
      · exact Int.le_trans c (h.1 z hz)
    · rename_i c
      rw [List.pairwise_cons]
      refine ⟨fun z hz => ?_, insI_sorted x r h.2⟩
      rcases List.mem_cons.mp ((insI_perm x r).mem_iff.mp hz) with rfl | hz
      · omega
      · exact h.1 z hz
theorem sortI_sorted : ∀ l : List Int, (sortI l).Pairwise (· ≤ ·)
  | [] => List.Pairwise.nil
  | x :: r => insI_sorted x _ (sortI_sorted r)
theorem sorted_one : ∀ {l m : List Int}, l.Perm m → l.Pairwise (· ≤ ·) → m.Pairwise (· ≤ ·) → l = m
  | [], m, p, _, _ => (List.Perm.eq_nil p.symm).symm
  | x :: r, [], p, _, _ => absurd (List.Perm.eq_nil p) (by simp)
  | x :: r, y :: t, p, h1, h2 => by
    rw [List.pairwise_cons] at h1 h2
    have e : x = y := by
      have a : x ∈ y :: t := p.mem_iff.mp List.mem_cons_self
      have b : y ∈ x :: r := p.mem_iff.mpr List.mem_cons_self
      rcases List.mem_cons.mp a with a | a
      · exact a
      · rcases List.mem_cons.mp b with b | b
        · exact b.symm
        · have := h1.1 y b
          have := h2.1 x a
          omega
    subst e
    rw [sorted_one (List.Perm.cons_inv p) h1.2 h2.2]
section
variable {X : Cx} {ρ : Rho} {h : VH} {H : Hp} {E : XK}
theorem c_sorted : CallR X (.builtin "sorted") (rC X.K X.mg sortedF) := by
  rintro pins s σ H xs us Q I r ⟨E, ρ, h, as, rep, rs, p⟩
  unfold sortedF at p
  match as, rs, p with
  | [], _, p => exact p.elim
  | _ :: _ :: _, _, p => exact p.elim
  | [a], rs, p =>
    obtain ⟨x, rfl, rx⟩ := rep1 rfl rs
    simp only at p
    cases e1 : intsOf h a with
    | none => simp only [e1] at p; exact p.elim
    | some ns =>
      simp only [e1] at p
      obtain ⟨q, f1, f2⟩ := intsOf_rep rep rx e1
      subst f1
      refine cr_sortedI pins s σ H _ us Q I r ⟨q, ns, rfl, f2, fun ns' b hp hs hb => ?_⟩
      have e : ns' = sortI ns := sorted_one (hp.trans (sortI_perm ns).symm) hs (sortI_sorted ns)
      subst e
      exact Post.lst p rep (RepVs.map (f := U.int) (g := V.int) (fun i => rfl) _) hb
theorem c_sum (hc : X.calm = true) : CallR X (.builtin "sum") (rC X.K X.mg sumF) := by
  rintro pins s σ H xs us Q I r ⟨E, ρ, h, as, rep, rs, p⟩
  unfold sumF at p
  match as, rs, p with
  | [], _, p => exact p.elim
  | _ :: _ :: _, _, p => exact p.elim
  | [a], rs, p =>
    obtain ⟨x, rfl, rx⟩ := rep1 rfl rs
    simp only at p
    cases e1 : intsOf h a with
    | none => simp only [e1] at p; exact p.elim
    | some ns =>
      simp only [e1] at p
      obtain ⟨q, f1, f2⟩ := intsOf_rep rep rx e1
      subst f1
      exact cr_sum hc pins s σ H _ us Q I r ⟨q, ns, rfl, f2, Post.v p rep rfl⟩
theorem maxI_spec : ∀ (r : List Int) (x : Int), (r.foldl (fun a b => if a < b then b else a) x = x ∨ r.foldl (fun a b => if a < b then b else a) x ∈ r) ∧ x ≤ r.foldl (fun a b => if a < b then b else a) x ∧ ∀ y ∈ r, y ≤ r.foldl (fun a b => if a < b then b else a) x
  | [], x => ⟨.inl rfl, Int.le_refl _, fun _ h => nomatch h⟩
  | z :: r, x => by
    obtain ⟨h1, h2, h3⟩ := maxI_spec r (if x < z then z else x)
    simp only [List.foldl_cons]
    refine ⟨?_, ?_, fun y hy => ?_⟩
    · rcases h1 with h1 | h1
      · rw [h1]
        split
        · exact .inr List.mem_cons_self
        · exact .inl rfl
      · exact .inr (List.mem_cons_of_mem _ h1)
    · split at h2 <;> split <;> omega
    · rcases List.mem_cons.mp hy with rfl | hy
      · split at h2 <;> split <;> omega
      · exact h3 y hy
theorem maxI_mem {l : List Int} (h : 0 < l.length) : maxI l ∈ l ∧ ∀ y ∈ l, y ≤ maxI l := by
  cases l with
  | nil => exact absurd h (by decide)
  | cons x r =>
    obtain ⟨h1, h2, h3⟩ := maxI_spec r x
    refine ⟨?_, fun y hy => ?_⟩
    · rcases h1 with h1 | h1
      · show maxI (x :: r) ∈ x :: r
        rw [show maxI (x :: r) = x from h1]
        exact List.mem_cons_self
      · exact List.mem_cons_of_mem _ h1
    · rcases List.mem_cons.mp hy with rfl | hy
      · exact h2
      · exact h3 y hy
theorem c_max (hc : X.calm = true) : CallR X (.builtin "max") (rC X.K X.mg maxF) := by
  rintro pins s σ H xs us Q I r ⟨E, ρ, h, as, rep, rs, p⟩
  unfold maxF at p
  match as, rs, p with
  | [], _, p => exact p.elim
  | _ :: _ :: _ :: _, _, p => exact p.elim
  | [a, b], rs, p =>
    obtain ⟨x, y, rfl, rx, ry⟩ := rep2 rfl rs
    cases a <;> cases b <;> try exact p.elim
    unfold RepV at rx ry
    exact call_max2 hc pins s σ H _ us Q I r ⟨_, _, by rw [rx, ry], Post.v p rep rfl⟩
  | [a], rs, p =>
    obtain ⟨x, rfl, rx⟩ := rep1 rfl rs
    simp only at p
    cases e1 : intsOf h a with
    | none => simp only [e1] at p; exact p.elim
    | some ns =>
      simp only [e1] at p
      by_cases c : 0 < ns.length
      · rw [if_pos c] at p
        obtain ⟨q, f1, f2⟩ := intsOf_rep rep rx e1
        subst f1
        refine cr_max hc pins s σ H _ us Q I r ⟨q, ns, rfl, f2, c, fun m h1 h2 => ?_⟩
        obtain ⟨m1, m2⟩ := maxI_mem c
        have e : m = maxI ns := Int.le_antisymm (m2 m h1) (h2 _ m1)
        subst e
        exact Post.v p rep rfl
      · rw [if_neg c] at p
        exact p.elim
theorem c_min (hc : X.calm = true) : CallR X (.builtin "min") (rC X.K X.mg minF) := by
  rintro pins s σ H xs us Q I r ⟨E, ρ, h, as, rep, rs, p⟩
  unfold minF at p
  split at p
  · obtain ⟨x, y, rfl, rx, ry⟩ := rep2 rfl rs
    unfold RepV at rx ry
    exact call_min2 hc pins s σ H _ us Q I r ⟨_, _, by rw [rx, ry], Post.v p rep rfl⟩
  · exact p.elim
theorem c_abs : CallR X (.builtin "abs") (rC X.K X.mg absF) := by
  rintro pins s σ H xs us Q I r ⟨E, ρ, h, as, rep, rs, p⟩
  unfold absF at p
  split at p
  · obtain ⟨x, rfl, rx⟩ := rep1 rfl rs
    unfold RepV at rx
    exact call_abs pins s σ H _ us Q I r ⟨_, by rw [rx], Post.v p rep rfl⟩
  · exact p.elim
theorem c_all (hc : X.calm = true) : CallR X (.builtin "all") (rC X.K X.mg allF) := by
  rintro pins s σ H xs us Q I r ⟨E, ρ, h, as, rep, rs, p⟩
  unfold allF at p
  match as, rs, p with
  | [], _, p => exact p.elim
  | _ :: _ :: _, _, p => exact p.elim
  | [a], rs, p =>
    obtain ⟨x, rfl, rx⟩ := rep1 rfl rs
    simp only at p
    cases e1 : blsOf h a with
    | none => simp only [e1] at p; exact p.elim
    | some ns =>
      simp only [e1] at p
      obtain ⟨q, f1, f2⟩ := blsOf_rep rep rx e1
      subst f1
      exact cr_all hc pins s σ H _ us Q I r ⟨q, ns, rfl, f2, Post.v p rep rfl⟩
theorem c_any (hc : X.calm = true) : CallR X (.builtin "any") (rC X.K X.mg anyF) := by
  rintro pins s σ H xs us Q I r ⟨E, ρ, h, as, rep, rs, p⟩
  unfold anyF at p
  match as, rs, p with
  | [], _, p => exact p.elim
  | _ :: _ :: _, _, p => exact p.elim
  | [a], rs, p =>
    obtain ⟨x, rfl, rx⟩ := rep1 rfl rs
    simp only at p
    cases e1 : blsOf h a with
    | none => simp only [e1] at p; exact p.elim
    | some ns =>
      simp only [e1] at p
      obtain ⟨q, f1, f2⟩ := blsOf_rep rep rx e1
      subst f1
      exact cr_any hc pins s σ H _ us Q I r ⟨q, ns, rfl, f2, Post.v p rep rfl⟩

/-! ### methods -/
/-- a method of a list, the list known -/
def lstM (m : Str) : U → List U → M U := fun u us => fun h => match u with
  | .ref n => match h[n]? with
    | some (.lst xs) => mLst m n xs us h
    | _ => .bad
  | _ => .bad
theorem lstM_open {m : Str} {a : U} {as : List U} {x : V} {Q : VK} (rep : RepH X.K X.mg ρ h H) (ra : RepV X.K ρ H a x) (p : Post X.K X.mg E (RV X.K Q) ρ H (lstM m a as h)) :
    ∃ n xs q vs, h[n]? = some (.lst xs) ∧ a = .ref n ∧ ρ[n]? = some q ∧ x = .ref q ∧ H q = some (.lst vs) ∧ RepVs X.K ρ H xs vs ∧ Post X.K X.mg E (RV X.K Q) ρ H (mLst m n xs as h) := by
  unfold lstM at p
  cases a with
  | ref n =>
    simp only at p
    cases e1 : h[n]? with
    | none => simp only [e1] at p; exact p.elim
    | some o =>
      cases o with
      | lst xs =>
        simp only [e1] at p
        obtain ⟨q, r1, f1, vs, g1, g2⟩ := RepV.ref_at rep ra e1
        exact ⟨n, xs, q, vs, e1, rfl, r1, f1, g1, g2, p⟩
      | _ => simp only [e1] at p; exact p.elim
  | _ => exact p.elim
theorem m_append : MtR X "list.append" (rMt X.K X.mg (lstM "append")) := by
  rintro pins s σ H x xs v us Q I rx rxs ⟨E, ρ, h, a, as, rep, ra, ras, p⟩
  obtain ⟨n, ws, q, vs, e1, rfl, r1, f1, g1, g2, p⟩ := lstM_open rep ra p
  unfold mLst at p
  rw [if_pos rfl] at p
  match as, ras, p with
  | [], _, p => exact p.elim
  | _ :: _ :: _, _, p => exact p.elim
  | [b], ras, p =>
    obtain ⟨y, rfl, ry⟩ := rep1 rfl ras
    simp only at p
    by_cases c : ws.length < sizeLine
    · rw [if_pos c] at p
      have ex : Ext ρ H ρ (upd H q (.lst (vs ++ [y]))) := .write (rep.pos e1 (fun _ z => nomatch z)) r1 g1 (fun _ _ z => nomatch z)
      refine mt_append pins s σ H x _ v us Q I rx rxs ⟨q, vs, y, f1, rfl, g1, by rw [← g2.len]; exact c, ?_⟩
      exact Post.wr p rep e1 (fun _ z => nomatch z) r1 (fun _ z => nomatch z) g1 (fun _ _ z => nomatch z) ⟨_, upd_same, (g2.ext ex).append (.one (ry.ext ex))⟩ _ rfl
    · rw [if_neg c] at p
      exact p.elim
theorem m_extend : MtR X "list.extend" (rMt X.K X.mg (lstM "extend")) := by
  rintro pins s σ H x xs v us Q I rx rxs ⟨E, ρ, h, a, as, rep, ra, ras, p⟩
  obtain ⟨n, ws, q, vs, e1, rfl, r1, f1, g1, g2, p⟩ := lstM_open rep ra p
  unfold mLst at p
  rw [if_neg (by decide +kernel), if_pos rfl] at p
  match as, ras, p with
  | [], _, p => exact p.elim
  | _ :: _ :: _, _, p => exact p.elim
  | [b], ras, p =>
    obtain ⟨y, rfl, ry⟩ := rep1 rfl ras
    cases b with
    | ref m =>
      simp only at p
      cases e2 : h[m]? with
      | none => simp only [e2] at p; exact p.elim
      | some o =>
        cases o with
        | lst ys =>
          simp only [e2] at p
          obtain ⟨q2, _, f2, zs, k1, k2⟩ := RepV.ref_at rep ry e2
          by_cases c : ws.length + ys.length ≤ sizeLine
          · rw [if_pos c] at p
            have ex : Ext ρ H ρ (upd H q (.lst (vs ++ zs))) := .write (rep.pos e1 (fun _ z => nomatch z)) r1 g1 (fun _ _ z => nomatch z)
            refine mt_extend pins s σ H x _ v us Q I rx rxs ⟨q, q2, vs, zs, f1, by rw [f2], g1, k1, by rw [← g2.len, ← k2.len]; exact c, ?_⟩
            exact Post.wr p rep e1 (fun _ z => nomatch z) r1 (fun _ z => nomatch z) g1 (fun _ _ z => nomatch z) ⟨_, upd_same, (g2.ext ex).append (k2.ext ex)⟩ _ rfl
          · rw [if_neg c] at p
            exact p.elim
        | _ => simp only [e2] at p; exact p.elim
    | _ => exact p.elim
theorem m_pop : MtR X "list.pop" (rMt X.K X.mg (lstM "pop")) := by
  rintro pins s σ H x xs v us Q I rx rxs ⟨E, ρ, h, a, as, rep, ra, ras, p⟩
  obtain ⟨n, ws, q, vs, e1, rfl, r1, f1, g1, g2, p⟩ := lstM_open rep ra p
  unfold mLst at p
  rw [if_neg (by decide +kernel), if_neg (by decide +kernel), if_pos rfl] at p
  match as, ras, p with
  | _ :: _, _, p => exact p.elim
  | [], ras, p =>
    unfold RepVs at ras
    subst ras
    simp only at p
    cases e2 : ws[ws.length - 1]? with
    | none => simp only [e2] at p; exact p.elim
    | some b =>
      simp only [e2] at p
      rw [g2.len] at e2
      obtain ⟨y, k1, k2⟩ := g2.get e2
      have ex : Ext ρ H ρ (upd H q (.lst vs.dropLast)) := .write (rep.pos e1 (fun _ z => nomatch z)) r1 g1 (fun _ _ z => nomatch z)
      refine mt_pop pins s σ H x _ v us Q I rx rxs ⟨q, vs, y, f1, rfl, g1, k1, ?_⟩
      exact Post.wr p rep e1 (fun _ z => nomatch z) r1 (fun _ z => nomatch z) g1 (fun _ _ z => nomatch z) ⟨_, upd_same, (g2.ext ex).dropLast⟩ _ (k2.ext ex)
theorem idxF_spec {u : U} : ∀ {us : List U} {j : Nat}, idxF u us = some j → ∃ w, us[j]? = some w ∧ eqF w u = true ∧ ∀ m z, m < j → us[m]? = some z → eqF z u = false
  | [], _, e => by cases e
  | y :: r, j, e => by
    unfold idxF at e
    by_cases c : eqF y u = true
    · rw [if_pos c] at e
      cases e
      exact ⟨y, rfl, c, fun m z h => absurd h (Nat.not_lt_zero _)⟩
    · rw [if_neg c] at e
      cases e1 : idxF u r with
      | none => rw [e1] at e; cases e
      | some k =>
        rw [e1] at e
        have e' : k + 1 = j := by simpa using e
        subst e'
        obtain ⟨w, h1, h2, h3⟩ := idxF_spec e1
        refine ⟨w, by simpa using h1, h2, fun m z hm hz => ?_⟩
        cases m with
        | zero =>
          have hz' : y = z := by simpa using hz
          subst hz'
          simpa using c
        | succ m => exact h3 m z (by omega) (by simpa using hz)
theorem idx_rep {us : List U} {vs : List V} {u : U} {y : V} {j : Nat} (r : RepVs X.K ρ H us vs) (fu : flatU u = true) (fs : us.all flatU = true) (ry : RepV X.K ρ H u y) (e : idxF u us = some j) :
    ∃ z, vs[j]? = some z ∧ eqV z y = true ∧ ∀ m z', m < j → vs[m]? = some z' → eqV z' y = false := by
  obtain ⟨w, h1, h2, h3⟩ := idxF_spec e
  obtain ⟨z, k1, k2⟩ := r.get h1
  have fl : ∀ {i : Nat} {w : U}, us[i]? = some w → flatU w = true := fun h => List.all_eq_true.mp fs _ (List.mem_of_getElem? h)
  refine ⟨z, k1, by rw [eqF_rep (fl h1) fu k2 ry]; exact h2, fun m z' hm hz => ?_⟩
  have hlt : m < us.length := by
    have := (List.getElem?_eq_some_iff.mp h1).1
    omega
  obtain ⟨z2, q1, q2⟩ := r.get (List.getElem?_eq_getElem hlt)
  rw [hz] at q1
  cases q1
  rw [eqF_rep (fl (List.getElem?_eq_getElem hlt)) fu q2 ry]
  exact h3 m _ hm (List.getElem?_eq_getElem hlt)
theorem m_index : MtR X "list.index" (rMt X.K X.mg (lstM "index")) := by
  rintro pins s σ H x xs v us Q I rx rxs ⟨E, ρ, h, a, as, rep, ra, ras, p⟩
  obtain ⟨n, ws, q, vs, e1, rfl, r1, f1, g1, g2, p⟩ := lstM_open rep ra p
  unfold mLst at p
  rw [if_neg (by decide +kernel), if_neg (by decide +kernel), if_neg (by decide +kernel), if_pos rfl] at p
  match as, ras, p with
  | [], _, p => exact p.elim
  | _ :: _ :: _, _, p => exact p.elim
  | [b], ras, p =>
    obtain ⟨y, rfl, ry⟩ := rep1 rfl ras
    simp only at p
    by_cases c : (flatU b && ws.all flatU) = true
    · rw [if_pos c] at p
      obtain ⟨c1, c2⟩ := Bool.and_eq_true_iff.mp c
      cases e2 : idxF b ws with
      | none => simp only [e2] at p; exact p.elim
      | some j =>
        simp only [e2] at p
        obtain ⟨z, k1, k2, k3⟩ := idx_rep g2 c1 c2 ry e2
        exact mt_index pins s σ H x _ v us Q I rx rxs ⟨q, vs, y, j, z, f1, rfl, SqL.of g1, flat_rep c1 ry, flats_rep c2 g2, k1, k2, k3, Post.v p rep rfl⟩
    · rw [if_neg c] at p
      exact p.elim
def strM (m : Str) : U → List U → M U := fun u us => match u with
  | .str x => mStr m x us
  | _ => mbad
theorem m_join : MtR X "str.join" (rMt X.K X.mg (strM "join")) := by
  rintro pins s σ H x xs v us Q I rx rxs ⟨E, ρ, h, a, as, rep, ra, ras, p⟩
  cases a <;> try exact p.elim
  rename_i z
  unfold RepV at ra
  unfold strM mStr at p
  simp only [if_true] at p
  match as, ras, p with
  | [], _, p => exact p.elim
  | _ :: _ :: _, _, p => exact p.elim
  | [b], ras, p =>
    obtain ⟨y, rfl, ry⟩ := rep1 rfl ras
    simp only at p
    cases e1 : seqOf h b with
    | none => simp [e1] at p; exact p.elim
    | some ws =>
      cases e2 : mapO toS ws with
      | none => simp [e1, e2] at p; exact p.elim
      | some ss =>
        have eb : ((seqOf h b).bind (mapO toS)) = some ss := by rw [e1]; exact e2
        rw [eb] at p
        simp only at p
        obtain ⟨q, vs, f1, f2, f3⟩ := seqOf_rep rep ry e1
        have e' := RepVs.mapO (g := V.str) (fun u a v => toS_rep u a v) e2 f3
        subst e'
        by_cases c : (ss.map (·.length)).sum + ss.length * z.length ≤ 16777216
        · rw [if_pos c] at p
          exact mt_join pins s σ H x _ v us Q I rx rxs ⟨z, q, ss, ra, by rw [f1], f2.imp (fun z => z) (fun z => z.sqT), c, Post.v p rep rfl⟩
        · rw [if_neg c] at p
          exact p.elim
def tupM (m : Str) : U → List U → M U := fun u us => match u with
  | .tup xs => mTup m xs us
  | _ => mbad
theorem m_tindex : MtR X "tuple.index" (rMt X.K X.mg (tupM "index")) := by
  rintro pins s σ H x xs v us Q I rx rxs ⟨E, ρ, h, a, as, rep, ra, ras, p⟩
  cases a <;> try exact p.elim
  rename_i ws
  unfold RepV at ra
  obtain ⟨q, vs, rfl, hN, g2⟩ := ra
  unfold tupM mTup at p
  simp only [if_true] at p
  match as, ras, p with
  | [], _, p => exact p.elim
  | _ :: _ :: _, _, p => exact p.elim
  | [b], ras, p =>
    obtain ⟨y, rfl, ry⟩ := rep1 rfl ras
    simp only at p
    by_cases c : (flatU b && ws.all flatU) = true
    · rw [if_pos c] at p
      obtain ⟨c1, c2⟩ := Bool.and_eq_true_iff.mp c
      cases e2 : idxF b ws with
      | none => simp only [e2] at p; exact p.elim
      | some j =>
        simp only [e2] at p
        obtain ⟨z, k1, k2, k3⟩ := idx_rep g2 c1 c2 ry e2
        have fy := flat_rep c1 ry
        have fv := flats_rep c2 g2
        have qq : Q (.int (j : Nat)) H := Post.v p rep rfl
        cases rx
        obtain ⟨u, rfl, ru⟩ := vals1 rxs
        obtain ⟨its, r, pl, hz⟩ := I.tuple hN.sqT
        obtain ⟨⟨cls, dd, dt, sl⟩, ho, hc, n, hd⟩ := pl
        simp only at hc hd
        subst hc
        subst hd
        have hl : its.toArray.size = vs.length := by rw [List.size_toArray, ← r.length]
        have hj : j < its.toArray.size := by rw [hl]; exact (List.getElem?_eq_some_iff.mp k1).1
        have at' : ∀ (m : Nat) (hm : m < its.toArray.size), ∃ w, vs[m]? = some w ∧ L2.eqU y its.toArray[m] = eqV w y := fun m hm => by
          have hm' : m < vs.length := by rw [← hl]; exact hm
          obtain ⟨w, hw, hw'⟩ := r.get (i := m) (x := vs[m]) (by simp [hm'])
          refine ⟨vs[m], List.getElem?_eq_getElem hm', ?_⟩
          have e := (List.getElem?_eq_some_iff.mp hw).2
          have fw : flatV vs[m] = true := List.all_eq_true.mp fv _ (List.getElem_mem hm')
          have e3 : its.toArray[m] = w := by rw [← e]; simp
          rw [e3]
          exact eqU_of hw' fw
        refine call_meets PySem.F.slot_tuple_index ⟨_, ho, rfl⟩ PySem.F.entry_tuple_index (PySem.F.args_tuple_index_2 _ _) (TI.tuple_indexAt q its.toArray n dd sl u (L2.eqU y) j hj ?_ ?_)
          ⟨ho, fun w hw => mem_eqAt ru fy r fv w (by simpa using hw), ⟨V.int (j : Nat), H, I.tok _, ⟨_, rfl⟩, qq⟩⟩
        · obtain ⟨w, h1, h2⟩ := at' j hj
          rw [k1] at h1
          cases h1
          rw [h2]
          exact k2
        · intro m hm hmj
          obtain ⟨w, h1, h2⟩ := at' m hm
          rw [h2]
          exact k3 m w hmj h1
    · rw [if_neg c] at p
      exact p.elim
end
end MP
/-! MPg: the constructs as functions of the frame's values, and the compiler. -/
namespace MP
open PySem

/-! ### expressions -/
def xV (i : Nat) : EM := fun η h => ofO (η[i]?.join) h
def xC (u : U) : EM := fun _ => mret u
def xOp (f : O2) (a b : EM) : EM := fun η => bnd (a η) fun u => bnd (b η) fun v => f u v
def xUn (f : U → M U) (a : EM) : EM := fun η => bnd (a η) f
def xIf (t : TM) (a b : EM) : EM := fun η => bnd (t η) fun c => if c = true then a η else b η
def xAnd (a b : EM) : EM := fun η => bnd (a η) fun u => bnd (truB u) fun c => if c = true then b η else mret u
def xOr (a b : EM) : EM := fun η => bnd (a η) fun u => bnd (truB u) fun c => if c = true then mret u else b η
def xNot (a : EM) : EM := fun η => bnd (a η) fun u => bnd (truB u) fun c => mret (.bl (!c))
def evL : List EM → AM
  | [] => fun _ => mret []
  | m :: ms => fun η => bnd (m η) fun u => bnd (evL ms η) fun us => mret (u :: us)
def xTup (ms : List EM) : EM := fun η => bnd (evL ms η) fun us => mret (.tup us)
def xLst (ms : List EM) : EM := fun η => bnd (evL ms η) fun us => newL us
def xChain (f g : O2) (a b c : EM) : EM := fun η => bnd (a η) fun u => bnd (b η) fun v => bnd (f u v) fun r => match r with
  | .bl k => if k = true then bnd (c η) fun w => g v w else mret (.bl false)
  | _ => mbad
def partM (m : Option EM) (η : Env) : M (Option Int) := match m with
  | none => mret none
  | some a => bnd (a η) fun u => match u with
    | .int i => mret (some i)
    | _ => mbad
def xSl (a : EM) (lo hi : Option EM) : EM := fun η => bnd (a η) fun u => bnd (partM lo η) fun l => bnd (partM hi η) fun k => slU u l k
def revU (u : U) : M U := fun h => match lstOf h u with
  | some xs => newL xs.reverse h
  | none => .bad
def xFld (cs : List Str) (f : Str) (a : EM) : EM := fun η => bnd (a η) (fldU cs f)
/-- a call of a def, the defaults ds behind -/
def xFn (g : List U → M U) (ds : List U) (ms : List EM) : EM := fun η => bnd (evL ms η) fun us => g (us ++ ds)
/-- a new instance -/
def mkU (c : Str) (ini : List U → M U) (us : List U) : M U := fun h =>
  bnd (ini (.ref h.length :: us)) (fun r => if r = .non then mret (.ref h.length) else mbad) (h ++ [.ins c []])
def xB (f : List U → M U) (ms : List EM) : EM := fun η => bnd (evL ms η) f
/-- a method of the receiver u: of which kind it is, then the arguments, then the call -/
def callM (G : Str → Str → List U → M U) (m : Str) (cs : List Str) (ds : List U) (u : U) (ar : M (List U)) : M U := fun h => match u with
  | .str _ => if m = "join" then bnd ar (fun us => strM m u us) h else .bad
  | .tup _ => if m = "index" then bnd ar (fun us => tupM m u us) h else .bad
  | .ref n => match h[n]? with
    | some (.ins c fs) => if c ∈ cs ∧ fs.lookup m = none then bnd ar (fun us => G c m (u :: (us ++ ds))) h else .bad
    | some (.lst _) => if m = "append" ∨ m = "extend" ∨ m = "pop" ∨ m = "index" then bnd ar (fun us => lstM m u us) h else .bad
    | _ => .bad
  | _ => .bad
def xMth (G : Str → Str → List U → M U) (m : Str) (cs : List Str) (ds : List U) (a : EM) (ms : List EM) : EM := fun η => bnd (a η) fun u => callM G m cs ds u (evL ms η)
def xIs (kc cs : List Str) (a : EM) : EM := fun η => bnd (a η) (isF kc cs)

/-! ### tests -/
def tU (a : EM) : TM := fun η => bnd (a η) truB
def tBl (a : EM) : TM := fun η => bnd (a η) fun u => match u with
  | .bl b => mret b
  | _ => mbad
def tNot (t : TM) : TM := fun η => bnd (t η) fun c => mret (!c)
def tAnd (t u : TM) : TM := fun η => bnd (t η) fun c => if c = true then u η else mret false
def tOr (t u : TM) : TM := fun η => bnd (t η) fun c => if c = true then mret true else u η

/-! ### what is walked -/
structure Itr where
  w : List (Nat × VO)
  us : List U
def okW (w : List (Nat × VO)) (h : VH) : Bool := w.all fun p => decide (h[p.1]? = some p.2)
def chrs (x : Str) : List U := x.cps.toList.map fun c => .str ⟨#[c]⟩
def itU (u : U) : M Itr := fun h => match u with
  | .tup us => .ok ⟨[], us⟩ h
  | .str x => .ok ⟨[], chrs x⟩ h
  | .ref n => match h[n]? with
    | some (.lst us) => .ok ⟨[(n, .lst us)], us⟩ h
    | some (.frz us) => .ok ⟨[], us⟩ h
    | _ => .bad
  | _ => .bad
def itV (a : EM) : Env → M Itr := fun η => bnd (a η) itU
def rngL (lo : Int) (n : Nat) : List U := (List.range n).map fun i => .int (lo + (i : Nat))
def itR1 (a : EM) : Env → M Itr := fun η => bnd (a η) fun u => match u with
  | .int j => if -(2 ^ 62) ≤ j ∧ j < 2 ^ 62 then mret ⟨[], rngL 0 j.toNat⟩ else mbad
  | _ => mbad
def itR2 (a b : EM) : Env → M Itr := fun η => bnd (a η) fun u => bnd (b η) fun v => match u, v with
  | .int i, .int j => if -(2 ^ 62) ≤ i ∧ i < 2 ^ 62 ∧ -(2 ^ 62) ≤ j ∧ j < 2 ^ 62 then mret ⟨[], rngL i (j - i).toNat⟩ else mbad
  | _, _ => mbad
def enumL : Nat → List U → List U
  | _, [] => []
  | i, u :: us => .tup [.int i, u] :: enumL (i + 1) us
def itE (a : EM) : Env → M Itr := fun η => bnd (a η) fun u => fun h => match u with
  | .tup us => .ok ⟨[], enumL 0 us⟩ h
  | .ref n => match h[n]? with
    | some (.lst us) => .ok ⟨[(n, .lst us)], enumL 0 us⟩ h
    | some (.frz us) => .ok ⟨[], enumL 0 us⟩ h
    | _ => .bad
  | _ => .bad
/-- a target: one slot, or several -/
inductive Tg where
  | one (i : Nat)
  | many (is : List Nat)
def Tg.isMany : Tg → Bool
  | .many _ => true
  | _ => false
def Tg.slots : Tg → List Nat
  | .one i => [i]
  | .many is => is
def setAll : List Nat → List U → Env → Env
  | i :: is, u :: us, η => setAll is us (η.set i (some u))
  | _, _, η => η
def tgM : Tg → GM
  | .one i => fun u η => mret (η.set i (some u))
  | .many is => fun u η => fun h => match seqOf h u with
    | some us => if us.length = is.length then .ok (setAll is us η) h else .bad
    | none => .bad
/-- within a comprehension nothing is raised -/
def noX {α : Type} (m : M α) : M α := fun h => match m h with
  | .ok a h' => .ok a h'
  | _ => .bad
/-- == where the left one's class may have its own -/
def eqM (G : Str → Str → List U → M U) (cs : List Str) : O2 := fun u v => fun h => match u with
  | .ref n => match h[n]? with
    | some (.ins c _) => if c ∈ cs then (match v with
      | .tup _ => noX (G c "__eq__" [u, v]) h
      | .ref k => match h[k]? with
        | some (.ins d _) => if d = c then noX (G c "__eq__" [u, v]) h else .bad
        | some (.lst _) => noX (G c "__eq__" [u, v]) h
        | _ => .bad
      | _ => .bad) else .bad
    | _ => eqO u v h
  | _ => eqO u v h
def compT1 (tg : GM) (t : TM) (e : EM) (u : U) (η : Env) : M (Option U) := noX (bnd (tg u η) fun η' => bnd (t η') fun c => if c = true then bnd (e η') fun v => mret (some v) else mret none)
def compL (w : List (Nat × VO)) (tg : GM) (t : TM) (e : EM) : List U → Env → M (List U)
  | [], _ => fun h => if okW w h = true then .ok [] h else .bad
  | u :: us, η => fun h => if okW w h = true then
      bnd (compT1 tg t e u η) (fun o => bnd (compL w tg t e us η) fun vs => mret (o.toList ++ vs)) h else .bad
/-- [e for tg in it if t] -/
def xLc (it : Env → M Itr) (tg : Tg) (t : TM) (e : EM) : EM := fun η => bnd (it η) fun I =>
  if I.us.length ≤ sizeLine then bnd (compL I.w (tgM tg) t e I.us η) newL else mbad
/-- {k: e for tg in it if t}: keys that are ints or texts -/
def isKS : U → Bool
  | .int _ => true
  | .str _ => true
  | _ => false
def compT2 (tg : GM) (t : TM) (k e : EM) (u : U) (η : Env) : M (Option (U × U)) := noX (bnd (tg u η) fun η' => bnd (t η') fun c => if c = true then bnd (k η') fun a => bnd (e η') fun v => mret (some (a, v)) else mret none)
def compD (w : List (Nat × VO)) (tg : GM) (t : TM) (k e : EM) : List U → Env → List (U × U) → M (List (U × U))
  | [], _, acc => fun h => if okW w h = true then .ok acc h else .bad
  | u :: us, η, acc => fun h => if okW w h = true then
      bnd (compT2 tg t k e u η) (fun o => match o with
        | some p => if isKS p.1 = true then compD w tg t k e us η (dput p.1 p.2 acc) else mbad
        | none => compD w tg t k e us η acc) h else .bad
def newD (kvs : List (U × U)) : M U := fun h => .ok (.ref h.length) (h ++ [.dct kvs])
def xDc (it : Env → M Itr) (tg : Tg) (t : TM) (k e : EM) : EM := fun η => bnd (it η) fun I => if I.us.length ≤ sizeLine then bnd (compD I.w (tgM tg) t k e I.us η []) newD else mbad
def tYes : TM := fun _ => mret true

/-! ### statements -/
def sNil : SM := fun η => mret (.next η)
def sSeq (a b : SM) : SM := fun η => bnd (a η) fun r => match r with
  | .next η' => b η'
  | r => mret r
def sTg (tg : Tg) (m : EM) : SM := fun η => bnd (m η) fun u => bnd (tgM tg u η) fun η' => mret (.next η')
def sPar (is : List Nat) (ms : List EM) : SM := fun η => bnd (evL ms η) fun us => mret (.next (setAll is us η))
def sPut (o i m : EM) : SM := fun η => bnd (m η) fun v => bnd (o η) fun u => bnd (i η) fun k => bnd (setU u k v) fun _ => mret (.next η)
def sFld (cs : List Str) (f : Str) (o m : EM) : SM := fun η => bnd (m η) fun v => bnd (o η) fun u => bnd (setFldU cs f u v) fun _ => mret (.next η)
def sAug (i : Nat) (f : O2) (m : EM) : SM := fun η => bnd (xV i η) fun u => bnd (m η) fun v => bnd (f u v) fun w => mret (.next (η.set i (some w)))
def sExp (m : EM) : SM := fun η => bnd (m η) fun _ => mret (.next η)
def sRet (m : EM) : SM := fun η => bnd (m η) fun u => mret (.ret u)
def sRetN : SM := fun η => mret (.ret .non)
def sIf (t : TM) (a b : SM) : SM := fun η => bnd (t η) fun c => if c = true then a η else b η
def sBrk : SM := fun η => mret (.brk η)
def sCont : SM := fun η => mret (.cont η)
def forL (w : List (Nat × VO)) (tg : GM) (b : SM) : List U → Env → M Fl
  | [], η => fun h => if okW w h = true then .ok (.next η) h else .bad
  | u :: us, η => fun h => if okW w h = true then
      bnd (bnd (tg u η) b) (fun r => match r with
        | .next η' => forL w tg b us η'
        | .cont η' => forL w tg b us η'
        | .brk η' => mret (.next η')
        | .ret v => mret (.ret v)) h else .bad
def sFor (it : Env → M Itr) (tg : Tg) (b : SM) : SM := fun η => bnd (it η) fun I => forL I.w (tgM tg) b I.us η
/-- a while with so many turns left; none: out of turns -/
def whileN (t : TM) (b : SM) : Nat → Env → VH → Option (Res Fl)
  | 0, _, _ => none
  | n + 1, η, h => match t η h with
    | .ok c h1 => if c = true then (match b η h1 with
      | .ok (.next η') h2 => whileN t b n η' h2
      | .ok (.cont η') h2 => whileN t b n η' h2
      | .ok (.brk η') h2 => some (.ok (.next η') h2)
      | .ok (.ret v) h2 => some (.ok (.ret v) h2)
      | .exc c fs h2 => some (.exc c fs h2)
      | .bad => some .bad) else some (.ok (.next η) h1)
    | .exc c fs h1 => some (.exc c fs h1)
    | .bad => some .bad
open Classical in
noncomputable def sWhile (t : TM) (b : SM) : SM := fun η h => if c : ∃ n, (whileN t b n η h).isSome = true then (whileN t b (Classical.choose c) η h).getD .bad else .bad
/-- raise of an own class with at most one field -/
def sRaise (c : Str) (f : Option Str) (ms : List EM) : SM := fun η => bnd (evL ms η) fun us => match f, us with
  | none, [] => mexc c []
  | some f, [u] => mexc c [(f, u)]
  | _, _ => mbad

/-- a def -/
def fnM (N : Nat) (np : Nat) (b : SM) (us : List U) : M U :=
  if us.length = np then bnd (b (us.map some ++ List.replicate (N - np) none)) (fun r => match r with
    | .next _ => mret .non
    | .ret u => mret u
    | _ => mbad) else mbad

/-- no zero-argument call of a name -/
def baseOk : Expr → Bool
  | .Call (.Name _ _) [] _ _ => false
  | _ => true

/-! ### the compiler -/
structure Gm where
  fn : Str → List U → M U
  meth : Str → Str → List U → M U
structure Tab where
  fns : List (Str × Nat × List U)
  cls : List (Str × Nat × List U)
  mth : List (Str × List Str × Nat × List U)
  fld : List (Str × List Str)
  exs : List (Str × Option Str)
  con : List (Str × U)
  isc : List Str
  kc : List Str
def visB (sc : Scope) (x : Str) : Bool := match sc.names.lookup x with
  | some .local => true
  | some .cell => true
  | some .free => true
  | _ => false
def glB (sc : Scope) (x : Str) : Bool := match sc.names.lookup x with
  | some .globalImplicit => true
  | _ => false
def okN (x : Str) : Bool := !(x == ("__debug__" : Str)) && !(x == ("__classdict__" : Str))
def slot (N : List Str) (sc : Scope) (x : Str) : Option Nat := if (visB sc x && okN x) = true then N.findIdx? (fun y => decide (y = x)) else none
def constU : Const → Option U
  | .none => some .non
  | .bool b => some (.bl b)
  | .int i => some (.int i)
  | .str x => some (.str x)
  | _ => none
def opOf : Operator → Option O2
  | .Add => some addU
  | .Sub => some subU
  | .Mult => some mulU
  | .FloorDiv => some fdivU
  | .Mod => some modU
  | .Pow => some powU
  | _ => none
def cmpOf : CmpOp → Option O2
  | .Eq => some eqO
  | .NotEq => some neO
  | .Lt => some ltU
  | .LtE => some leU
  | .Gt => some gtU
  | .GtE => some geU
  | .Is => some isNU
  | .IsNot => some notNU
  | .In => some inU
  | .NotIn => some notInU
def bltOf (x : Str) : Option (List U → M U) :=
  if x = "len" then some lenU else if x = "int" then some intF else if x = "tuple" then some tupF else if x = "list" then some listF
  else if x = "sorted" then some sortedF else if x = "sum" then some sumF else if x = "max" then some maxF else if x = "min" then some minF
  else if x = "abs" then some absF else if x = "all" then some allF else if x = "any" then some anyF else none
/-- the classes that isinstance asks for -/
def clsOf (T : Tab) (sc : Scope) : Expr → Option (List Str)
  | .Name x _ => if (glB sc x && okN x && T.isc.contains x) = true then some [x] else none
  | .Tuple [.Name x _, .Name y _] _ _ => if (glB sc x && okN x && T.isc.contains x && glB sc y && okN y && T.isc.contains y) = true then some [x, y] else none
  | _ => none
def locB (sc : Scope) (x : Str) : Bool := match sc.names.lookup x with
  | some .local => true
  | some .cell => true
  | _ => false
def slotL (N : List Str) (sc : Scope) (x : Str) : Option Nat := if locB sc x = true then slot N sc x else none
def slotsOf (N : List Str) (sc : Scope) : List Expr → Option (List Nat)
  | [] => some []
  | .Name x _ :: r => match slotL N sc x, slotsOf N sc r with
    | some i, some is => some (i :: is)
    | _, _ => none
  | _ => none
def tgOf (N : List Str) (sc : Scope) : Expr → Option Tg
  | .Name x _ => (slotL N sc x).map .one
  | .Tuple ts _ _ => match slotsOf N sc ts with
    | some is => if (is.eraseDups.length == is.length) = true then some (.many is) else none
    | none => none
  | _ => none
def scopeOwn (N : List Str) (sc : Scope) : List (Str × Nat) := sc.names.filterMap fun y => match y.2 with
  | .local => (N.findIdx? (fun z => decide (z = y.1))).map fun i => (y.1, i)
  | .cell => (N.findIdx? (fun z => decide (z = y.1))).map fun i => (y.1, i)
  | _ => none
/-- the defaults that stand behind k arguments -/
def dsFor (np : Nat) (ds : List U) (k : Nat) : Option (List U) := if k + (ds.drop (ds.length - (np - k))).length = np then some (ds.drop (ds.length - (np - k))) else none
mutual
def compE (T : Tab) (G : Gm) (N : List Str) : Nat → Scope → Expr → Option EM
  | 0, _, _ => none
  | n + 1, sc, e => match e with
    | .Constant c _ _ => (constU c).map xC
    | .Name x _ => match slot N sc x with
      | some i => some (xV i)
      | none => if (glB sc x && okN x) = true then (T.con.lookup x).map xC else none
    | .BinOp a op b _ => match opOf op, compE T G N n sc a, compE T G N n sc b with
      | some f, some ma, some mb => some (xOp f ma mb)
      | _, _, _ => none
    | .UnaryOp op a _ => match op, compE T G N n sc a with
      | .USub, some ma => some (xUn negU ma)
      | .Not, some ma => some (xNot ma)
      | _, _ => none
    | .BoolOp op vs _ => compBV T G N n sc op vs
    | .Compare a ops cs _ => compC T G N n sc a ops cs
    | .IfExp t a b _ => match compT T G N n sc t, compE T G N n sc a, compE T G N n sc b with
      | some mt, some ma, some mb => some (xIf mt ma mb)
      | _, _, _ => none
    | .List es _ => if es.length ≤ 1000 then (compEs T G N n sc es).map xLst else none
    | .Tuple es _ _ => if es.length ≤ 1000 then (compEs T G N n sc es).map xTup else none
    | .Attribute o f _ => match T.fld.lookup f, compE T G N n sc o with
      | some cs, some mo => if baseOk o = true then some (xFld cs f mo) else none
      | _, _ => none
    | .Subscript a i _ => match i with
      | .Slice lo hi none _ => match compE T G N n sc a, compO T G N n sc lo, compO T G N n sc hi with
        | some ma, some ml, some mh => some (xSl ma ml mh)
        | _, _, _ => none
      | .Slice none none (some (.UnaryOp .USub (.Constant (.int 1) _ _) _)) _ => (compE T G N n sc a).map (xUn revU)
      | .Slice _ _ _ _ => none
      | i => match compE T G N n sc a, compE T G N n sc i with
        | some ma, some mi => some (xOp getU ma mi)
        | _, _ => none
    | .ListComp elt gs csc _ => match gs with
      | [⟨tg, it, ifs, 0⟩] => match compI T G N n sc it, tgOf N csc tg, compIf T G N n csc ifs, compE T G N n csc elt with
        | some (mi, pr), some g, some mt, some me => if ((!pr || g.isMany) && L2.blkC N sc csc (scopeOwn N csc) && (scopeOwn N csc).all (fun p => g.slots.contains p.2) && g.slots.all (fun i => (scopeOwn N csc).any (fun p => p.2 == i))) = true then some (xLc mi g mt me) else none
        | _, _, _, _ => none
      | _ => none
    | .DictComp kx vx gs csc _ => match gs with
      | [⟨tg, it, ifs, 0⟩] => match compI T G N n sc it, tgOf N csc tg, compIf T G N n csc ifs, compE T G N n csc kx, compE T G N n csc vx with
        | some (mi, pr), some g, some mt, some mk, some me => if ((!pr || g.isMany) && L2.blkC N sc csc (scopeOwn N csc) && (scopeOwn N csc).all (fun p => g.slots.contains p.2) && g.slots.all (fun i => (scopeOwn N csc).any (fun p => p.2 == i))) = true then some (xDc mi g mt mk me) else none
        | _, _, _, _, _ => none
      | _ => none
    | .Call f es ks pos => match ks with
      | [] => match f with
        | .Name x _ => if (glB sc x && okN x) = true then (
            match T.fns.lookup x with
            | some (np, ds) => match compEs T G N n sc es, dsFor np ds es.length with
              | some ms, some d => some (xFn (G.fn x) d ms)
              | _, _ => none
            | none => match T.cls.lookup x with
              | some (np, ds) => match compEs T G N n sc es, dsFor np ds es.length with
                | some ms, some d => some (xFn (mkU x (G.meth x "__init__")) d ms)
                | _, _ => none
              | none => if x = "isinstance" then (match es with
                | [a, c] => match clsOf T sc c, compE T G N n sc a with
                  | some cs, some ma => some (xIs T.kc cs ma)
                  | _, _ => none
                | _ => none) else match bltOf x, compEs T G N n sc es with
                  | some g, some ms => if es.isEmpty = true then none else some (xB g ms)
                  | _, _ => none) else none
        | .Attribute o m apos => if (apos.endLine == pos.line && baseOk o && decide (es.length < 29)) = true then (match compE T G N n sc o, compEs T G N n sc es with
          | some mo, some ms => match T.mth.lookup m with
            | some (cs, np, ds) => (dsFor np ds es.length).map fun d => xMth G.meth m cs d mo ms
            | none => some (xMth G.meth m [] [] mo ms)
          | _, _ => none) else none
        | _ => none
      | _ => none
    | _ => none
/-- an == under another comparison: the class's own -/
def compQ (T : Tab) (G : Gm) (N : List Str) : Nat → Scope → Expr → Option EM
  | 0, _, _ => none
  | n + 1, sc, e => match e with
    | .Compare a [.Eq] [b] p => match T.mth.lookup ("__eq__" : Str) with
      | some (cs, 1, []) => match compE T G N n sc a, compE T G N n sc b with
        | some ma, some mb => if behindInMarks .Eq b = false then some (xOp (eqM G.meth cs) ma mb) else none
        | _, _ => none
      | _ => compE T G N n sc (.Compare a [.Eq] [b] p)
    | e => compE T G N n sc e
def compC (T : Tab) (G : Gm) (N : List Str) : Nat → Scope → Expr → List CmpOp → List Expr → Option EM
  | 0, _, _, _, _ => none
  | n + 1, sc, a, ops, cs => match ops, cs with
    | [op], [b] => match cmpOf op, compQ T G N n sc a, compE T G N n sc b with
      | some f, some ma, some mb => if behindInMarks op b = false then some (xOp f ma mb) else none
      | _, _, _ => none
    | [op, op'], [b, c] => match cmpOf op, cmpOf op', compE T G N n sc a, compE T G N n sc b, compE T G N n sc c with
      | some f, some g, some ma, some mb, some mc => if lastMarks [op, op'] [b, c] = false then some (xChain f g ma mb mc) else none
      | _, _, _, _, _ => none
    | _, _ => none
def compBV (T : Tab) (G : Gm) (N : List Str) : Nat → Scope → BoolOp → List Expr → Option EM
  | 0, _, _, _ => none
  | n + 1, sc, op, vs => match vs with
    | [a] => compE T G N n sc a
    | a :: b :: r => match compE T G N n sc a, compBV T G N n sc op (b :: r) with
      | some ma, some mb => some (match op with
        | .And => xAnd ma mb
        | .Or => xOr ma mb)
      | _, _ => none
    | [] => none
def compEs (T : Tab) (G : Gm) (N : List Str) : Nat → Scope → List Expr → Option (List EM)
  | 0, _, _ => none
  | n + 1, sc, es => match es with
    | [] => some []
    | a :: r => match compE T G N n sc a, compEs T G N n sc r with
      | some ma, some ms => some (ma :: ms)
      | _, _ => none
def compO (T : Tab) (G : Gm) (N : List Str) : Nat → Scope → Option Expr → Option (Option EM)
  | 0, _, _ => none
  | n + 1, sc, e => match e with
    | none => some none
    | some a => match compE T G N n sc a with
      | some m => some (some m)
      | none => none
def compT (T : Tab) (G : Gm) (N : List Str) : Nat → Scope → Expr → Option TM
  | 0, _, _ => none
  | n + 1, sc, e => match e with
    | .UnaryOp op a _ => match op with
      | .Not => (compT T G N n sc a).map tNot
      | _ => none
    | .BoolOp op vs _ => compBT T G N n sc op vs
    | .IfExp _ _ _ _ => none
    | .Compare a ops cs _ => (compC T G N n sc a ops cs).map tBl
    | e => (compE T G N n sc e).map tU
def compBT (T : Tab) (G : Gm) (N : List Str) : Nat → Scope → BoolOp → List Expr → Option TM
  | 0, _, _, _ => none
  | n + 1, sc, op, vs => match vs with
    | [a] => compT T G N n sc a
    | a :: b :: r => match compT T G N n sc a, compBT T G N n sc op (b :: r) with
      | some ma, some mb => some (match op with
        | .And => tAnd ma mb
        | .Or => tOr ma mb)
      | _, _ => none
    | [] => none
def compIf (T : Tab) (G : Gm) (N : List Str) : Nat → Scope → List Expr → Option TM
  | 0, _, _ => none
  | n + 1, sc, es => match es with
    | [] => some tYes
    | [a] => compT T G N n sc a
    | _ => none
/-- what is walked; whether it gives out pairs of its own -/
def compI (T : Tab) (G : Gm) (N : List Str) : Nat → Scope → Expr → Option ((Env → M Itr) × Bool)
  | 0, _, _ => none
  | n + 1, sc, e => match e with
    | .Call (.Name x p) es ks q => if (glB sc x && decide (x = "range")) = true then (match es, ks with
        | [a], [] => match compE T G N n sc a with
          | some ma => some (itR1 ma, false)
          | none => none
        | [a, b], [] => match compE T G N n sc a, compE T G N n sc b with
          | some ma, some mb => some (itR2 ma mb, false)
          | _, _ => none
        | _, _ => none)
      else if (glB sc x && decide (x = "enumerate")) = true then (match es, ks with
        | [a], [] => match compE T G N n sc a with
          | some ma => some (itE ma, true)
          | none => none
        | _, _ => none)
      else (compE T G N n sc (.Call (.Name x p) es ks q)).map fun m => (itV m, false)
    | e => (compE T G N n sc e).map fun m => (itV m, false)
end
def noComp : Expr → Bool
  | .ListComp _ _ _ _ => false
  | .SetComp _ _ _ _ => false
  | .DictComp _ _ _ _ _ => false
  | _ => true
def noSt : Expr → Bool
  | .Starred _ _ => false
  | _ => true
/-- a, b = x, y: stored from the right -/
def parC (sc : Scope) (ts es : List Expr) : Option (Str × Str) := match ts, es with
  | [.Name x px, .Name y py], [a, b] =>
    if (decide (sc.names.lookup x = some .local) && decide (sc.names.lookup y = some .local) && (px.line == py.line) && !(x == y) && noSt a && noSt b && !(foldedForSure 8 a && foldedForSure 8 b) && !(constantsAlone 8 a && constantsAlone 8 b)) = true then some (x, y) else none
  | _, _ => none
/-- the same where one of the names is a cell: a tuple, taken apart -/
def tupC (sc : Scope) (ts es : List Expr) : Bool := match ts, es with
  | [.Name x _, .Name y _], [a, b] => noSt a && noSt b && (decide (sc.names.lookup x = some .cell) || decide (sc.names.lookup y = some .cell))
  | _, _ => false
def sBad : SM := fun _ => mbad
def clsU (u : U) : M Str := fun h => match u with
  | .ref n => match h[n]? with
    | some (.ins c _) => .ok c h
    | _ => .bad
  | _ => .bad
def sFldAug (cs : List Str) (f : Str) (o m : EM) : SM := fun η => bnd (o η) fun u => bnd (clsU u) fun c => if c ∈ cs then
  bnd (fldU [c] f u) fun x => bnd (m η) fun y => bnd (opI (fun a b => some (.int (a + b))) x y) fun z => bnd (setFldU [c] f u z) fun _ => mret (.next η) else mbad
mutual
noncomputable def compS (T : Tab) (G : Gm) (N : List Str) : Nat → Scope → Stmt → Option SM
  | 0, _, _ => none
  | n + 1, sc, s => match s with
    | .Pass _ => some sNil
    | .Break _ => some sBrk
    | .Continue _ => some sCont
    | .Return v _ => match v with
      | none => some sRetN
      | some e => (compE T G N n sc e).map sRet
    | .Expr e _ => match e with
      | .Constant (.str _) _ _ => some sNil
      | e => if noComp e = true then (compE T G N n sc e).map sExp else none
    | .If c a b _ => match compT T G N n sc c with
      | some t => some (sIf t (compSs T G N n sc a) (compSs T G N n sc b))
      | none => none
    | .While c b es _ => match es with
      | [] => match compT T G N n sc c with
        | some t => some (sWhile t (compSs T G N n sc b))
        | none => none
      | _ => none
    | .For tg it b es _ => match es with
      | [] => match compI T G N n sc it, tgOf N sc tg with
        | some (mi, pr), some g => if (!pr || g.isMany) = true then some (sFor mi g (compSs T G N n sc b)) else none
        | _, _ => none
      | _ => none
    | .Assign ts e pos => match ts with
      | [.Subscript o i _] => match i with
        | .Slice _ _ _ _ => none
        | i => match compE T G N n sc e, compE T G N n sc o, compE T G N n sc i with
          | some me, some mo, some mi => some (sPut mo mi me)
          | _, _, _ => none
      | [.Attribute o f _] => match T.fld.lookup f, compE T G N n sc e, compE T G N n sc o with
        | some cs, some me, some mo => some (sFld cs f mo me)
        | _, _, _ => none
      | [.Tuple ts _ _] => match e with
        | .Tuple es k p => match parC sc ts es, compEs T G N n sc es with
          | some (x, y), some ms => match slotL N sc x, slotL N sc y with
            | some i, some j => some (sPar [i, j] ms)
            | _, _ => none
          | none, some ms => if tupC sc ts es = true then (match slotsOf N sc ts, compE T G N n sc (.Tuple es k p) with
            | some is, some me => some (sTg (.many is) me)
            | _, _ => none) else none
          | _, _ => none
        | e => match slotsOf N sc ts, compE T G N n sc e with
          | some is, some me => some (sTg (.many is) me)
          | _, _ => none
      | [.Name x p] => match slotL N sc x, compE T G N n sc e with
        | some i, some me => match e with
          | .ListComp _ _ csc q => if (decide (sc.names.lookup x = some .local) && (p.line == q.line) && !(csc.names.any fun y => y.1 == x && (y.2 == .local || y.2 == .cell))) = true ∨ (p.line == q.line) = false ∨ sc.names.lookup x = some .cell then some (sTg (.one i) me) else none
          | .DictComp _ _ _ _ q => if (p.line == q.line) = false ∨ sc.names.lookup x = some .cell then some (sTg (.one i) me) else none
          | e => if noComp e = true then some (sTg (.one i) me) else none
        | _, _ => none
      | _ => none
    | .AugAssign tg op e _ => match tg, op with
      | .Name x _, .Add => match slotL N sc x, compE T G N n sc e with
        | some i, some me => some (sAug i (opI fun a b => some (.int (a + b))) me)
        | _, _ => none
      | .Attribute o f _, .Add => match T.fld.lookup f, compE T G N n sc e, compE T G N n sc o with
        | some cs, some me, some mo => some (sFldAug cs f mo me)
        | _, _, _ => none
      | _, _ => none
    | _ => none
noncomputable def compSs (T : Tab) (G : Gm) (N : List Str) : Nat → Scope → List Stmt → SM
  | 0, _, _ => sBad
  | n + 1, sc, ss => match ss with
    | [] => sNil
    | [s] => (compS T G N n sc s).getD sBad
    | s :: r => sSeq ((compS T G N n sc s).getD sBad) (compSs T G N n sc r)
end
end MP
/-! MPh: the constructs keep what they promise. -/
namespace L2
open PySem
section
variable {X : Cx}
theorem PE.impU {e : Expr} {t t' : TE} (h : PE X e t) (i : ∀ σ H Q, t' σ H Q → t σ H Q) : PE X e t' := ⟨fun pins s σ H Q I q => h.run pins s σ H Q I (i σ H Q q)⟩
theorem PT.impU {e : Expr} {t t' : TT} (h : PT X e t) (i : ∀ σ H Q, t' σ H Q → t σ H Q) : PT X e t' := ⟨fun pins s σ H Q I q => h.run pins s σ H Q I (i σ H Q q)⟩
theorem PW.impU {e : Expr} {t t' : TT} (h : PW X e t) (i : ∀ σ H Q, t' σ H Q → t σ H Q) : PW X e t' := ⟨fun wh pins s σ H Q I q => h.run wh pins s σ H Q I (i σ H Q q)⟩
theorem PA.impU {e : List Expr} {t t' : TA} (h : PA X e t) (i : ∀ σ H Q, t' σ H Q → t σ H Q) : PA X e t' := ⟨fun p pins s σ H Q I q => h.run p pins s σ H Q I (i σ H Q q)⟩
theorem PS.impU {e : Stmt} {t t' : TS} (h : PS X e t) (i : ∀ D σ H, t' D σ H → t D σ H) : PS X e t' := ⟨fun pins s σ H D I q => h.run pins s σ H D I (i D σ H q)⟩
theorem PSs.impU {e : List Stmt} {t t' : TS} (h : PSs X e t) (i : ∀ D σ H, t' D σ H → t D σ H) : PSs X e t' := ⟨fun pins s σ H D I q => h.run pins s σ H D I (i D σ H q)⟩
end

end L2
namespace MP
open PySem L2

/-- a def's promise -/
def spU (K : PySem.W.Frag) (mg : Str → Option Value) (np : Nat) (g : List U → M U) : Sp := fun vs H Q E =>
  ∃ ρ h us, RepH K mg ρ h H ∧ RepVs K ρ H us vs ∧ us.length = np ∧ Post K mg E (RV K Q) ρ H (g us h)
/-- how defaults stand behind -/
def Dfl (K : PySem.W.Frag) (fd : FuncData) (ps : List Str) (ds : List U) : Prop := ∃ dvs dws, (∀ ρ H, RepVs K ρ H ds dvs) ∧ Vals dvs dws ∧ Binds K fd ps dws
structure Facts (T : Tab) (G : Gm) (P : Program) (w : World) (K : PySem.W.Frag) (mg : Str → Option Value) (base : Heap) (A : Around) : Prop where
  fn : ∀ x np ds, T.fns.lookup x = some (np, ds) → ∃ (k : Nat) (f : Addr) (fd : FuncData) (ps : List Str), FnOk P w K mg base (L2.CX P w) k f fd ps (spU K mg np (G.fn x)) ∧ Room k A ∧ mg x = some (.ref f) ∧ PySem.W.keepIn K (.ref f) = true ∧ ∀ n, Dfl K fd ps (ds.drop n)
  cls : ∀ x np ds, T.cls.lookup x = some (np, ds) → ∃ (k : Nat) (f C : Addr) (fd : FuncData) (ps : List Str), FnOk P w K mg base (L2.CX P w) k f fd ps (spU K mg (np + 1) (G.meth x "__init__")) ∧ Room (k + 1) A ∧ mg x = some (.ref C) ∧ Mk K C f ∧ ∀ n, Dfl K fd ps (ds.drop n)
  mth : ∀ m cs np ds, T.mth.lookup m = some (cs, np, ds) → ∀ c ∈ cs, ∃ (k : Nat) (f C : Addr) (fd : FuncData) (ps : List Str), FnOk P w K mg base (L2.CX P w) k f fd ps (spU K mg (np + 1) (G.meth c m)) ∧ Room k A ∧ mg c = some (.ref C) ∧ Cls K C ∧ Meth K C m f ∧ ∀ n, Dfl K fd ps (ds.drop n)
  fld : ∀ f cs, T.fld.lookup f = some cs → ∀ c ∈ cs, ∃ C, mg c = some (.ref C) ∧ Cls K C ∧ NoAttr K C f
  con : ∀ x u, T.con.lookup x = some u → ∃ v t, mg x = some t ∧ RelV v t ∧ ∀ ρ H, RepV K ρ H u v
  blt : ∀ x : Str, x ∈ (["len", "int", "tuple", "list", "sorted", "sum", "max", "min", "abs", "all", "any", "isinstance", "range", "enumerate", "zip"] : List Str) → mg x = none
  isc : ∀ c ∈ T.isc, ∃ v t, ((mg c = none ∧ bootBuiltins c = some t ∧ c ≠ "__name__") ∨ mg c = some t) ∧ ClsV v t ∧ RelV v t ∧
    (PySem.W.kitOne K (.type "NoneType") t = some false ∧ PySem.W.kitOne K (.type "bool") t = some (decide (c = "bool") || decide (c = "int")) ∧ PySem.W.kitOne K (.type "int") t = some (decide (c = "int")) ∧
      PySem.W.kitOne K (.type "str") t = some (decide (c = "str")) ∧ PySem.W.kitOne K (.type "tuple") t = some (decide (c = "tuple")) ∧ PySem.W.kitOne K (.type "list") t = some (decide (c = "list")) ∧
      PySem.W.kitOne K (.type "dict") t = some (decide (c = "dict"))) ∧ ∀ d ∈ T.kc, ∀ D, mg d = some (.ref D) → PySem.W.kitOne K (.ref D) t = some (decide (c = d))
  icl : ∀ d ∈ T.kc, ∀ D, mg d = some (.ref D) → Cls K D ∧ PySem.W.findIn K (.ref D) "__class__" = some (some (.builtin "object.__class__")) ∧
    PySem.W.specialIn K (.builtin "object.__class__") "__get__" = some (some (.builtin "getset_descriptor.__get__")) ∧ PySem.W.takesIn K (.builtin "object.__class__") = some true ∧ PySem.W.mroIn K D (.type "object") = some true
structure XOk (T : Tab) (G : Gm) (N : List Str) (sc : Scope) (X : Cx) (W : WX) : Prop where
  hN : X.N = N
  nd : N.Nodup
  vis : ∀ x, visB sc x = true → Vis X.env.scope x
  gl : ∀ x, glB sc x = true → Gl X x
  loc : ∀ x, locB sc x = true → Loc X.env.scope x ∧ (X.fn x = true ∨ X.env.scope.names.lookup x = some .local)
  blk : ∀ csc own, L2.blkC N sc csc own = true → BlkOk N X.env.scope csc own
  kind : X.env.scope.kind = .function
  calm : X.calm = true
  units : X.A.units + 65 < cLine
  tk : Takes X W
  facts : Facts T G X.prog X.w X.K X.mg X.base X.A

abbrev qE (X : Cx) (W : WX) (m : EM) : TE := tE X.K X.mg W m
abbrev qT (X : Cx) (W : WX) (m : TM) : TT := tT X.K X.mg W m
abbrev qA (X : Cx) (W : WX) (m : AM) : TA := tA X.K X.mg W m
section
variable {X : Cx} {W : WX} {e a b c : Expr} {ma mb mc : EM} {pos : Pos} {σ : L2.St} {H : Hp} {Q : VK}
/-- from a run of several: the first one -/
theorem tE.first {α : Type} {m : EM} {k : U → Env → M α} {K : PySem.W.Frag} {mg : Str → Option Value} {E : XK} {R : α → Rho → Hp → Prop} {Q : VK} {ρ : Rho} {h : VH} {η : Env} (at_ : At K mg ρ h η σ H) (hE : E = fun c d H' => W c d σ H')
    (p : Post K mg E R ρ H (bnd (m η) (fun u => k u η) h))
    (hk : ∀ u v ρ1 h1 H1, At K mg ρ1 h1 η σ H1 → Ext ρ H ρ1 H1 → RepV K ρ1 H1 u v → Post K mg E R ρ1 H1 (k u η h1) → Q v H1) : tE K mg W m σ H Q := by
  subst hE
  exact ⟨ρ, h, η, at_, p.bind fun u ρ1 h1 H1 x r p1 v rv => hk u v ρ1 h1 H1 (at_.ext x r) x rv p1⟩
theorem e_var {N : List Str} {sc : Scope} {x : Str} {i : Nat} (hN : X.N = N) (hv : ∀ x, visB sc x = true → Vis X.env.scope x) (h : slot N sc x = some i) : PE X (.Name x pos) (qE X W (xV i)) := by
  unfold slot at h
  by_cases c : (visB sc x && okN x) = true
  · rw [if_pos c] at h
    obtain ⟨c1, c2⟩ := Bool.and_eq_true_iff.mp c
    unfold okN at c2
    obtain ⟨c2, c3⟩ := Bool.and_eq_true_iff.mp c2
    have hx : X.N[i]? = some x := by
      rw [hN]
      obtain ⟨hi, h1, _⟩ := List.findIdx?_eq_some_iff_getElem.mp h
      rw [List.getElem?_eq_getElem hi]
      exact congrArg some (of_decide_eq_true h1)
    refine (pe_var (i := i) hx (hv x c1) (by simpa using c2) (by simpa using c3)).impU fun σ H Q ⟨ρ, h, η, at_, p⟩ => ?_
    unfold xV at p
    cases e : η[i]? with
    | none => rw [e] at p; exact p.elim
    | some o =>
      cases o with
      | none => rw [e] at p; exact p.elim
      | some u =>
        rw [e] at p
        obtain ⟨v, h1, h2⟩ := at_.env.get e
        have p : Post X.K X.mg (fun c d H' => W c d σ H') (RV X.K Q) ρ H (.ok u h) := p
        exact ⟨v, h1, Post.v p at_.heap h2⟩
  · rw [if_neg c] at h
    cases h
theorem e_con {c : Const} {u : U} {k : Nat} (h : constU c = some u) : PE X (.Constant c k pos) (qE X W (xC u)) := by
  have fin : ∀ {v : V}, PE X (.Constant c k pos) (tC v) → (∀ ρ H, RepV X.K ρ H u v) → PE X (.Constant c k pos) (qE X W (xC u)) := fun pe r =>
    pe.impU fun σ H Q ⟨ρ, h, η, at_, p⟩ => by
      have p : Post X.K X.mg (fun c d H' => W c d σ H') (RV X.K Q) ρ H (.ok u h) := p
      exact Post.v p at_.heap (r ρ H)
  cases c <;> first | (cases h; done) | skip
  · cases h; exact fin pe_non fun _ _ => rfl
  · cases h; exact fin pe_bl fun _ _ => rfl
  · cases h; exact fin pe_int fun _ _ => rfl
  · cases h; exact fin pe_str fun _ _ => rfl
theorem e_glob {x : Str} {u : U} {v : V} {t : Value} (hg : Gl X x) (hm : X.mg x = some t) (r : RelV v t) (rv : ∀ ρ H, RepV X.K ρ H u v) (hd : (x == ("__debug__" : Str)) = false) : PE X (.Name x pos) (qE X W (xC u)) :=
  (pe_glob hg hm r hd).impU fun σ H Q ⟨ρ, h, η, at_, p⟩ => by
    have p : Post X.K X.mg (fun c d H' => W c d σ H') (RV X.K Q) ρ H (.ok u h) := p
    exact Post.v p at_.heap (rv ρ H)
theorem i_op {f : O2} (σ : L2.St) (H : Hp) (Q : VK) (q : qE X W (xOp f ma mb) σ H Q) : tOp (rO X.K X.mg f) (qE X W ma) (qE X W mb) σ H Q := by
  obtain ⟨ρ, h, η, at_, p⟩ := q
  refine tE.first (k := fun u η => bnd (mb η) fun v => f u v) at_ rfl p fun u x ρ1 h1 H1 at1 x1 ru p1 => ?_
  refine tE.first (k := fun v η => f u v) at1 rfl p1 fun w y ρ2 h2 H2 at2 x2 rw p2 => ?_
  exact ⟨_, ρ2, h2, u, w, at2.heap, ru.ext x2, rw, p2⟩
theorem e_op {op : Operator} {f : O2} (ho : OpR X (binaryOp op) (rO X.K X.mg f)) (ha : PE X a (qE X W ma)) (hb : PE X b (qE X W mb)) : PE X (.BinOp a op b pos) (qE X W (xOp f ma mb)) :=
  (pe_op ho ha hb).impU i_op
theorem e_cmp {op : CmpOp} {f : O2} (ho : OpR X (compareOp op) (rO X.K X.mg f)) (hm : behindInMarks op b = false) (ha : PE X a (qE X W ma)) (hb : PE X b (qE X W mb)) : PE X (.Compare a [op] [b] pos) (qE X W (xOp f ma mb)) :=
  (pe_cmpR ho ha hb hm).impU i_op
theorem e_neg (ha : PE X a (qE X W ma)) : PE X (.UnaryOp .USub a pos) (qE X W (xUn negU ma)) :=
  (pe_un u_neg ha).impU fun σ H Q ⟨ρ, h, η, at_, p⟩ => by
    refine tE.first (k := fun u η => negU u) at_ rfl p fun u x ρ1 h1 H1 at1 x1 ru p1 => ?_
    exact ⟨_, ρ1, h1, u, at1.heap, ru, p1⟩
/-- a value's truth -/
theorem tru_of {α : Type} {R : α → Rho → Hp → Prop} {E : XK} {ρ : Rho} {h : VH} {u : U} {x : V} {k : Bool → M α} {K : PySem.W.Frag} {mg : Str → Option Value} {X : Cx} (hK : K = X.K) (hm : mg = X.mg) (r : RepH K mg ρ h H) (ru : RepV K ρ H u x) (p : Post K mg E R ρ H (bnd (truB u) k h)) :
    ∃ b, TruV K x H b ∧ Post K mg E R ρ H (k b h) := by
  subst hK hm
  unfold bnd at p
  cases e : truB u h with
  | ok b h' =>
    rw [e] at p
    have e2 := truB_ok e
    subst e2
    exact ⟨b, tru_rep r ru e (fun n kvs hb z => by subst hb; unfold truB at e; simp only [z] at e; cases e), p⟩
  | exc c fs h' => exact (truB_exc e).elim
  | bad => rw [e] at p; exact p.elim
theorem e_not (ha : PE X a (qE X W ma)) : PE X (.UnaryOp .Not a pos) (qE X W (xNot ma)) :=
  (pe_notT ha).impU fun σ H Q ⟨ρ, h, η, at_, p⟩ => by
    refine tE.first (k := fun u η => bnd (truB u) fun c => mret (U.bl (!c))) at_ rfl p fun u x ρ1 h1 H1 at1 x1 ru p1 => ?_
    obtain ⟨c, tc, p2⟩ := tru_of rfl rfl at1.heap ru p1
    exact ⟨c, tc, Post.v p2 at1.heap rfl⟩
theorem e_and {rest : List Expr} (ha : PE X a (qE X W ma)) (hb : PE X (.BoolOp .And (b :: rest) pos) (qE X W mb)) : PE X (.BoolOp .And (a :: b :: rest) pos) (qE X W (xAnd ma mb)) :=
  (pe_andT ha hb).impU fun σ H Q ⟨ρ, h, η, at_, p⟩ => by
    refine tE.first (k := fun u η => bnd (truB u) fun c => if c = true then mb η else mret u) at_ rfl p fun u x ρ1 h1 H1 at1 x1 ru p1 => ?_
    obtain ⟨c, tc, p2⟩ := tru_of rfl rfl at1.heap ru p1
    refine ⟨c, tc, ?_⟩
    cases c with
    | true => exact ⟨ρ1, h1, η, at1, p2⟩
    | false => exact Post.v p2 at1.heap ru
theorem e_or {rest : List Expr} (ha : PE X a (qE X W ma)) (hb : PE X (.BoolOp .Or (b :: rest) pos) (qE X W mb)) : PE X (.BoolOp .Or (a :: b :: rest) pos) (qE X W (xOr ma mb)) :=
  (pe_orT ha hb).impU fun σ H Q ⟨ρ, h, η, at_, p⟩ => by
    refine tE.first (k := fun u η => bnd (truB u) fun c => if c = true then mret u else mb η) at_ rfl p fun u x ρ1 h1 H1 at1 x1 ru p1 => ?_
    obtain ⟨c, tc, p2⟩ := tru_of rfl rfl at1.heap ru p1
    refine ⟨c, tc, ?_⟩
    cases c with
    | true => exact Post.v p2 at1.heap ru
    | false => exact ⟨ρ1, h1, η, at1, p2⟩
theorem tT.first {α : Type} {m : TM} {k : Bool → Env → M α} {K : PySem.W.Frag} {mg : Str → Option Value} {E : XK} {R : α → Rho → Hp → Prop} {Q : Bool → Hp → Prop} {ρ : Rho} {h : VH} {η : Env} (at_ : At K mg ρ h η σ H) (hE : E = fun c d H' => W c d σ H')
    (p : Post K mg E R ρ H (bnd (m η) (fun u => k u η) h))
    (hk : ∀ b ρ1 h1 H1, At K mg ρ1 h1 η σ H1 → Ext ρ H ρ1 H1 → Post K mg E R ρ1 H1 (k b η h1) → Q b H1) : tT K mg W m σ H Q := by
  subst hE
  exact ⟨ρ, h, η, at_, p.bind fun b ρ1 h1 H1 x r p1 => hk b ρ1 h1 H1 (at_.ext x r) x p1⟩
theorem e_if {mt : TM} (hc : PT X c (qT X W mt)) (ha : PE X a (qE X W ma)) (hb : PE X b (qE X W mb)) : PE X (.IfExp c a b pos) (qE X W (xIf mt ma mb)) :=
  (pe_ifExp hc ha hb).impU fun σ H Q ⟨ρ, h, η, at_, p⟩ => by
    refine tT.first (k := fun c η => if c = true then ma η else mb η) at_ rfl p fun k ρ1 h1 H1 at1 x1 p1 => ?_
    cases k with
    | true => exact ⟨ρ1, h1, η, at1, p1⟩
    | false => exact ⟨ρ1, h1, η, at1, p1⟩
/-! arguments -/
theorem nostar (h : ∀ x p, e ≠ .Starred x p) (es : List Expr) (env : PySem.Env) : starEach (e :: es) env = (false, eval e env) :: starEach es env := by
  cases e <;> first | rfl | exact absurd rfl (h _ _)
theorem tA.first {α : Type} {m : AM} {k : List U → Env → M α} {K : PySem.W.Frag} {mg : Str → Option Value} {E : XK} {R : α → Rho → Hp → Prop} {Q : List V → Hp → Prop} {ρ : Rho} {h : VH} {η : Env} (at_ : At K mg ρ h η σ H) (hE : E = fun c d H' => W c d σ H')
    (p : Post K mg E R ρ H (bnd (m η) (fun u => k u η) h))
    (hk : ∀ us vs ρ1 h1 H1, At K mg ρ1 h1 η σ H1 → Ext ρ H ρ1 H1 → RepVs K ρ1 H1 us vs → Post K mg E R ρ1 H1 (k us η h1) → Q vs H1) : tA K mg W m σ H Q := by
  subst hE
  exact ⟨ρ, h, η, at_, p.bind fun b ρ1 h1 H1 x r p1 vs rvs => hk b vs ρ1 h1 H1 (at_.ext x r) x rvs p1⟩
theorem a_nil : PA X [] (qA X W (evL [])) := pa_nil.impU fun σ H Q ⟨ρ, h, η, at_, p⟩ => p ρ H .refl at_.heap _ rfl
theorem a_cons {es : List Expr} {ms : List EM} (hs : ∀ x p, e ≠ .Starred x p) (he : PE X e (qE X W ma)) (hr : PA X es (qA X W (evL ms))) : PA X (e :: es) (qA X W (evL (ma :: ms))) :=
  (pa_cons he hr (nostar hs es _)).impU fun σ H Q ⟨ρ, h, η, at_, p⟩ => by
    refine tE.first (k := fun u η => bnd (evL ms η) fun us => mret (u :: us)) at_ rfl p fun u x ρ1 h1 H1 at1 x1 ru p1 => ?_
    refine tA.first (k := fun us η => mret (u :: us)) at1 rfl p1 fun us xs ρ2 h2 H2 at2 x2 rus p2 => ?_
    exact p2 ρ2 H2 .refl at2.heap _ (.cons (ru.ext x2) rus)
theorem evL_len : ∀ {ms : List EM} {η : Env} {h h' : VH} {us : List U}, evL ms η h = .ok us h' → us.length = ms.length
  | [], _, _, _, _, e => by cases e; rfl
  | m :: ms, η, h, h', us, e => by
    unfold evL bnd at e
    cases e1 : m η h with
    | ok u h1 =>
      simp only [e1] at e
      cases e2 : evL ms η h1 with
      | ok us2 h2 =>
        simp only [e2] at e
        have e' : u :: us2 = us := by
          have := congrArg (fun r => match r with | Res.ok a _ => a | _ => []) e
          exact this
        rw [← e', List.length_cons, List.length_cons, evL_len e2]
      | exc c fs h2 => simp only [e2] at e; cases e
      | bad => simp only [e2] at e; cases e
    | exc c fs h1 => simp only [e1] at e; cases e
    | bad => simp only [e1] at e; cases e
/-- .. with the number of items -/
theorem tA.firstL {α : Type} {ms : List EM} {k : List U → Env → M α} {K : PySem.W.Frag} {mg : Str → Option Value} {E : XK} {R : α → Rho → Hp → Prop} {Q : List V → Hp → Prop} {ρ : Rho} {h : VH} {η : Env} (at_ : At K mg ρ h η σ H) (hE : E = fun c d H' => W c d σ H')
    (p : Post K mg E R ρ H (bnd (evL ms η) (fun u => k u η) h))
    (hk : ∀ us vs ρ1 h1 H1, At K mg ρ1 h1 η σ H1 → Ext ρ H ρ1 H1 → RepVs K ρ1 H1 us vs → us.length = ms.length → Post K mg E R ρ1 H1 (k us η h1) → Q vs H1) : tA K mg W (evL ms) σ H Q := by
  subst hE
  refine ⟨ρ, h, η, at_, ?_⟩
  unfold bnd at p
  cases e : evL ms η h with
  | ok us h' =>
    rw [e] at p
    exact fun ρ1 H1 x r vs rvs => hk us vs ρ1 h' H1 (at_.ext x r) x rvs (evL_len e) (Post.ext x p)
  | exc c fs h' => rw [e] at p; exact p
  | bad => rw [e] at p; exact p
theorem e_tup {es : List Expr} {ms : List EM} {k : Nat} (hl : ms.length ≤ 1000) (h : PA X es (qA X W (evL ms))) : PE X (.Tuple es k pos) (qE X W (xTup ms)) :=
  (pe_tupN h).impU fun σ H Q ⟨ρ, h, η, at_, p⟩ => by
    refine tA.firstL (k := fun us η => mret (U.tup us)) at_ rfl p fun us vs ρ1 h1 H1 at1 x1 rus hn p1 => ?_
    refine ⟨?_, Post.tup p1 at1.heap rus⟩
    rw [← rus.len, hn, sizeLine_eq]
    omega
theorem e_lst {es : List Expr} {ms : List EM} (hl : ms.length ≤ 1000) (h : PA X es (qA X W (evL ms))) : PE X (.List es pos) (qE X W (xLst ms)) :=
  (pe_lst h).impU fun σ H Q ⟨ρ, h, η, at_, p⟩ => by
    refine tA.firstL (k := fun us η => newL us) at_ rfl p fun us vs ρ1 h1 H1 at1 x1 rus hn p1 => ?_
    refine ⟨?_, fun q hq => Post.lst p1 at1.heap rus hq⟩
    rw [← rus.len, hn, sizeLine_eq]
    omega
theorem i_chain {f g : O2} (σ : L2.St) (H : Hp) (Q : VK) (q : qE X W (xChain f g ma mb mc) σ H Q) : tChain (rO X.K X.mg f) (rO X.K X.mg g) (qE X W ma) (qE X W mb) (qE X W mc) σ H Q := by
    obtain ⟨ρ, h, η, at_, p⟩ := q
    refine tE.first (k := fun u η => bnd (mb η) fun v => bnd (f u v) fun r => match r with
      | .bl k => if k = true then bnd (mc η) fun w => g v w else mret (.bl false)
      | _ => mbad) at_ rfl p fun u x ρ1 h1 H1 at1 x1 ru p1 => ?_
    refine tE.first (k := fun v η => bnd (f u v) fun r => match r with
      | .bl k => if k = true then bnd (mc η) fun w => g v w else mret (.bl false)
      | _ => mbad) at1 rfl p1 fun w y ρ2 h2 H2 at2 x2 rw p2 => ?_
    refine ⟨_, ρ2, h2, u, w, at2.heap, ru.ext x2, rw, p2.bind fun r ρ3 h3 H3 x3 rep3 p3 z rz => ?_⟩
    cases r <;> try exact p3.elim
    rename_i k
    unfold RepV at rz
    refine ⟨k, rz, ?_⟩
    cases k with
    | true =>
      refine tE.first (k := fun w' η => g w w') (at2.ext x3 rep3) rfl p3 fun t z ρ4 h4 H4 at4 x4 rt p4 => ?_
      exact ⟨_, ρ4, h4, w, t, at4.heap, (rw.ext x3).ext x4, rt, p4⟩
    | false => exact Post.v p3 rep3 rfl
theorem e_chain {op op' : CmpOp} {f g : O2} (ho : OpR X (compareOp op) (rO X.K X.mg f)) (ho' : OpR X (compareOp op') (rO X.K X.mg g)) (ha : PE X a (qE X W ma)) (hb : PE X b (qE X W mb)) (hc : PE X c (qE X W mc))
    (hm : lastMarks [op, op'] [b, c] = false) : PE X (.Compare a [op, op'] [b, c] pos) (qE X W (xChain f g ma mb mc)) :=
  (pe_chain ho ho' ha hb hc hm).impU i_chain
end
end MP
/-! MPi: calls, subscripts, attributes. -/
namespace MP
open PySem L2 PyProof.Rows

theorem base_eq {o : Expr} {m : Str} {env : PySem.Env} {wh : Sem Value} (h : baseOk o = true) : attributeBase o m env wh = wh := by
  cases o with
  | Call f as ks p =>
    cases f <;> try rfl
    cases as with
    | nil => cases h
    | cons a r => rfl
  | _ => rfl
section
variable {prog : Program} {w : World} {A : Around} {E : Value → Shared → Prop} {s : Shared} {env : PySem.Env}
theorem call_attr {o : Expr} {name : Str} {apos pos : Pos} {args : List Expr} {Q : Value → Shared → Prop}
    (hbase : attributeBase o name env (eval o env) = eval o env)
    (hfew : ((backTo pos (starEach args env)).all (fun x => !x.1) && (backToKw pos (keywordEach [] env)).all (fun x => x.1.isSome)
      && decide (args.length + ([] : List Keyword).length + (if ([] : List Keyword).isEmpty then 0 else 1) < 30)) = true)
    (hline : (apos.endLine == pos.line) = true)
    (h : wpAny (model prog w) A (eval o env) (fun ov s₁ => ∀ pl, wpAny (model prog w) A (getMethod ov name pl) (fun fx s₂ => wpAny (model prog w) A (callWith pos fx.1 fx.2 (backTo pos (starEach args env)) []) Q E s₂) E s₁) E s) :
    wpAny (model prog w) A (eval (.Call (.Attribute o name apos) args [] pos) env) Q E s := by
  rw [arm_eval_Call, hbase]
  refine wpAny_bind (wpAny_mono h (fun ov s₁ h₁ => ?_) fun _ _ e => e)
  refine wpAny_bind (wpAny_standAt ?_)
  have hform : methodCallForm (args.length + ([] : List Keyword).length) (backTo pos (starEach args env)) (backToKw pos (keywordEach [] env)) = true := hfew
  have hpos : methodCallPos true o env apos pos = pure pos := by unfold methodCallPos; simp [hline]
  unfold methodCall
  rw [hform]
  refine wpAny_bind (wpAny_holding (wpAny_mono (h₁ _) (fun fx s2 h2 => ?_) fun _ _ e => e))
  exact wpAny_bind (wpAny_of_eq hpos h2)
end
theorem stars_of {env : PySem.Env} : ∀ {es : List Expr}, (∀ e ∈ es, ∀ x p, e ≠ .Starred x p) → starEach es env = es.map fun e => (false, eval e env)
  | [], _ => rfl
  | e :: es, h => by rw [nostar (h e List.mem_cons_self), stars_of fun e' he => h e' (List.mem_cons_of_mem _ he), List.map_cons]
theorem stars_any {env : PySem.Env} {es : List Expr} {pos : Pos} (h : ∀ e ∈ es, ∀ x p, e ≠ .Starred x p) : (backTo pos (starEach es env)).any (·.1) = false := by
  rw [stars_of h]
  unfold backTo
  rw [List.map_map, List.any_map]
  exact List.any_eq_false.mpr fun e _ => by simp
theorem stars_few {env : PySem.Env} {es : List Expr} {pos : Pos} (h : ∀ e ∈ es, ∀ x p, e ≠ .Starred x p) (hl : es.length < 29) :
    ((backTo pos (starEach es env)).all (fun x => !x.1) && (backToKw pos (keywordEach [] env)).all (fun x => x.1.isSome)
      && decide (es.length + ([] : List Keyword).length + (if ([] : List Keyword).isEmpty then 0 else 1) < 30)) = true := by
  rw [Bool.and_eq_true, Bool.and_eq_true]
  refine ⟨⟨?_, rfl⟩, decide_eq_true (by simp; omega)⟩
  rw [stars_of h]
  unfold backTo
  rw [List.map_map, List.all_map]
  exact List.all_eq_true.mpr fun e _ => by simp

section
variable {X : Cx} {W : WX} {e a b c o : Expr} {ma mb mc mo : EM} {ms : List EM} {es : List Expr} {pos p apos : Pos} {σ : L2.St} {H : Hp} {Q : VK}
theorem plainIx {b : Expr} (h : ∀ x y z p, b ≠ .Slice x y z p) : PlainIx b := fun o i => by
  cases b <;> first | rfl | exact absurd rfl (h _ _ _ _)
theorem e_get (hu : X.A.units + 1 < cLine) (hs : ∀ x y z p, b ≠ .Slice x y z p) (ha : PE X a (qE X W ma)) (hb : PE X b (qE X W mb)) : PE X (.Subscript a b pos) (qE X W (xOp getU ma mb)) :=
  (pe_ix (ix_get hu) ha hb (plainIx hs)).impU i_op
/-- a part of a slice -/
def tP (X : Cx) (W : WX) (m : Option EM) : TO := fun σ H Q => ∃ ρ h η, At X.K X.mg ρ h η σ H ∧ Post X.K X.mg (fun c d H' => W c d σ H') (fun o _ H' => Q o H') ρ H (partM m η h)
theorem p_none : PO X none (tP X W none) := ⟨fun pins s σ H Q I ⟨ρ, h, η, at_, q⟩ => po_none.run pins s σ H Q I (q ρ H .refl at_.heap)⟩
theorem p_some (ha : PE X a (qE X W ma)) : PO X (some a) (tP X W (some ma)) := ⟨fun pins s σ H Q I ⟨ρ, h, η, at_, q⟩ => (po_some ha).run pins s σ H Q I (by
  refine tE.first (k := fun u η => match u with
    | .int i => mret (some i)
    | _ => mbad) at_ rfl q fun u x ρ1 h1 H1 at1 x1 ru p1 => ?_
  cases u <;> try exact p1.elim
  unfold RepV at ru
  exact ⟨_, ru, p1 ρ1 H1 .refl at1.heap⟩)⟩
theorem e_sl {lo hi : Option Expr} {ml mh : Option EM} {p2 : Pos} (ha : PE X a (qE X W ma)) (hl : PO X lo (tP X W ml)) (hh : PO X hi (tP X W mh)) : PE X (.Subscript a (.Slice lo hi none p2) pos) (qE X W (xSl ma ml mh)) :=
  (pe_slice sl_cut ha hl hh).impU fun σ H Q ⟨ρ, h, η, at_, q⟩ => by
    refine tE.first (k := fun u η => bnd (partM ml η) fun l => bnd (partM mh η) fun k => slU u l k) at_ rfl q fun u x ρ1 h1 H1 at1 x1 ru p1 => ?_
    refine ⟨ρ1, h1, η, at1, p1.bind fun l ρ2 h2 H2 x2 r2 p2 => ?_⟩
    refine ⟨ρ2, h2, η, at1.ext x2 r2, p2.bind fun k ρ3 h3 H3 x3 r3 p3 => ?_⟩
    exact ⟨_, ρ3, h3, u, r3, (ru.ext x2).ext x3, p3⟩
theorem e_rev {k : Nat} {p1 p2 p3 : Pos} (ha : PE X a (qE X W ma)) : PE X (.Subscript a (.Slice none none (some (.UnaryOp .USub (.Constant (.int 1) k p1) p2)) p3) pos) (qE X W (xUn revU ma)) :=
  (pe_revL ha).impU fun σ H Q ⟨ρ, h, η, at_, q⟩ => by
    refine tE.first (k := fun u η => revU u) at_ rfl q fun u x ρ1 h1 H1 at1 x1 ru p1 => ?_
    unfold revU at p1
    cases e1 : lstOf h1 u with
    | none => simp only [e1] at p1; exact p1.elim
    | some xs =>
      simp only [e1] at p1
      obtain ⟨b, vs, f1, f2, f3⟩ := lstOf_rep at1.heap ru e1
      have rv : RepVs X.K ρ1 H1 xs.reverse vs.reverse := by
        have key : ∀ {us : List U} {vs : List V}, RepVs X.K ρ1 H1 us vs → RepVs X.K ρ1 H1 us.reverse vs.reverse := by
          intro us
          induction us with
          | nil => intro vs r; unfold RepVs at r; subst r; exact rfl
          | cons u us ih =>
            intro vs r
            obtain ⟨v, z, rfl, r1, r2⟩ := r
            rw [List.reverse_cons, List.reverse_cons]
            exact (ih r2).append (.one r1)
        exact key f3
      exact ⟨b, vs, f1, f2, fun q hq => Post.lst p1 at1.heap rv hq⟩
theorem fld_open {K : PySem.W.Frag} {mg : Str → Option Value} {E : XK} {ρ : Rho} {h : VH} {u : U} {x : V} {cs : List Str} {f : Str} (r : RepH K mg ρ h H) (ru : RepV K ρ H u x) (p : Post K mg E (RV K Q) ρ H (fldU cs f u h)) :
    ∃ a c C dx fv v, c ∈ cs ∧ mg c = some (.ref C) ∧ x = .ref a ∧ H a = some (.ins C dx fv) ∧ fv.lookup f = some v ∧ Q v H := by
  unfold fldU at p
  cases u <;> try exact p.elim
  rename_i n
  simp only at p
  cases e1 : h[n]? with
  | none => simp only [e1] at p; exact p.elim
  | some vo =>
    cases vo with
    | ins c fs =>
      simp only [e1] at p
      by_cases hc : c ∈ cs
      · rw [if_pos hc] at p
        obtain ⟨a, _, f1, C, dx, fv, g1, g2, g3⟩ := RepV.ref_at r ru e1
        cases e2 : fs.lookup f with
        | none => simp only [e2] at p; exact p.elim
        | some w =>
          simp only [e2] at p
          obtain ⟨v, k1, k2⟩ := g3.lookup e2
          exact ⟨a, c, C, dx, fv, v, hc, g1, f1, g2, k1, Post.v p r k2⟩
      · rw [if_neg hc] at p
        exact p.elim
    | _ => simp only [e1] at p; exact p.elim
theorem e_fld {cs : List Str} {f : Str} (hf : ∀ c ∈ cs, ∃ C, X.mg c = some (.ref C) ∧ Cls X.K C ∧ NoAttr X.K C f) (hb : baseOk o = true) (ho : PE X o (qE X W mo)) : PE X (.Attribute o f pos) (qE X W (xFld cs f mo)) :=
  (pe_fld ho (base_eq hb)).impU fun σ H Q ⟨ρ, h, η, at_, q⟩ => by
    refine tE.first (k := fun u η => fldU cs f u) at_ rfl q fun u x ρ1 h1 H1 at1 x1 ru p1 => ?_
    obtain ⟨a, c, C, dx, fv, v, hc, g1, f1, g2, k1, q⟩ := fld_open at1.heap ru p1
    obtain ⟨C', h1, h2, h3⟩ := hf c hc
    rw [g1] at h1
    cases h1
    exact ⟨a, C, dx, fv, v, f1, g2, h2, h3, k1, q⟩
/-! ### calls -/
theorem run_fnW {CX : Cx} {k : Nat} {f : Addr} {fd : FuncData} {ps : List Str} {sp : Sp} {ds : List Value} {dvs : List V} {pins : List (Addr × Obj)} {s : Shared} {us : List Value} {vs : List V} (F : FnOk X.prog X.w X.K X.mg X.base (L2.CX X.prog X.w) k f fd ps sp) (hr : Room k X.A) (hb : Binds X.K fd ps ds) (hd : Vals dvs ds) (tk : Takes X W)
    (I : Inv X pins σ H s) (r : Vals vs us) (h : sp (vs ++ dvs) H Q (fun c d H' => W c d σ H')) : wpAny (model X.prog X.w) X.A (call (.ref f) us) (EP X pins σ Q) X.xe s := by
  have r2 : Vals (vs ++ dvs) (us ++ ds) := r.append hd
  have hl : (us ++ ds).length = ps.length := by rw [← r2.length]; exact F.len _ _ _ _ h
  refine wpAny_call (codeAny_mono (F.run X.A X.stack s H ⟨us, []⟩ (us ++ ds) (vs ++ dvs) Q _ hr I.env0 (hb s us I.kIn hl) r2 h) fun r s' hq => ?_)
  cases r with
  | error e => exact tk e s' (XE.of_call I (fun _ _ _ z => z) hq)
  | ok fl =>
    cases fl with
    | ret u => exact I.after hq
    | next => exact False.elim hq
    | brk => exact False.elim hq
    | cont => exact False.elim hq
/-- a call by a name: what is behind it, by the values -/
theorem call_name {x : Str} {t : Value} (hn0 : es = [] → ms = []) (hs : ∀ e ∈ es, ∀ x p, e ≠ .Starred x p) (ha : PA X es (qA X W (evL ms))) {m : List U → M U} (hdb : (x == ("__debug__" : Str)) = false) (hg : Gl X x) (hm : X.mg x = some t) (hk : PySem.W.keepIn X.K t = true)
    (run : ∀ (pins : List (Addr × Obj)) (s : Shared) (σ : L2.St) (H : Hp) (Q : VK) (us : List Value) (vs : List V) (ρ : Rho) (h : VH) (as : List U), Inv X pins σ H s → Vals vs us → RepH X.K X.mg ρ h H → RepVs X.K ρ H as vs → as.length = ms.length → Post X.K X.mg (fun c d H' => W c d σ H') (RV X.K Q) ρ H (m as h) →
      wpAny (model X.prog X.w) X.A (call t us) (EP X pins σ Q) X.xe s) : PE X (.Call (.Name x p) es [] pos) (qE X W (xB m ms)) := by
  refine ⟨fun pins s σ H Q I ⟨ρ, h, η, at_, q⟩ => ?_⟩
  refine wpAny_Call_Name_kw (ld_glob I hg hm ?_ hdb)
  cases es with
  | nil =>
    have e0 := hn0 rfl
    subst e0
    refine PySem.W.callWith_K0 I.kIn hk ?_
    exact run pins s σ H Q [] [] ρ h [] I .nil at_.heap rfl rfl q
  | cons e es =>
    have hA := ha.run pos pins s σ H (fun vs H1 => ∃ ρ1 h1 as, RepH X.K X.mg ρ1 h1 H1 ∧ RepVs X.K ρ1 H1 as vs ∧ as.length = ms.length ∧ Post X.K X.mg (fun c d H' => W c d σ H') (RV X.K Q) ρ1 H1 (m as h1)) I
      (tA.firstL (k := fun us η => m us) at_ rfl q fun us vs ρ1 h1 H1 at1 x1 rus hn p1 => ⟨ρ1, h1, us, at1.heap, rus, hn, p1⟩)
    refine PySem.W.callWith_K (h₀ := X.base) I.ok.mod.kin hk (thn hA fun us s1 ⟨vs, H1, I1, r, ρ1, h1, as, r1, r2, r3, q1⟩ => ⟨I1.kIn, ?_⟩) (nostar (hs e List.mem_cons_self) es _) (stars_any fun e' he => hs e' (List.mem_cons_of_mem _ he))
    exact run pins s1 σ H1 Q us vs ρ1 h1 as I1 r r1 r2 r3 q1
/-- f(..), a def of the text -/
theorem e_fn {x : Str} {k np : Nat} {f : Addr} {fd : FuncData} {ps : List Str} {g : List U → M U} {ds : List U} (hn0 : es = [] → ms = []) (hs : ∀ e ∈ es, ∀ x p, e ≠ .Starred x p) (ha : PA X es (qA X W (evL ms))) (hdb : (x == ("__debug__" : Str)) = false) (hg : Gl X x)
    (F : FnOk X.prog X.w X.K X.mg X.base (L2.CX X.prog X.w) k f fd ps (spU X.K X.mg np g)) (hr : Room k X.A) (hm : X.mg x = some (.ref f)) (hk : PySem.W.keepIn X.K (.ref f) = true) (hd : Dfl X.K fd ps ds) (hnp : ms.length + ds.length = np) (tk : Takes X W) :
    PE X (.Call (.Name x p) es [] pos) (qE X W (xFn g ds ms)) := by
  obtain ⟨dvs, dws, d1, d2, d3⟩ := hd
  refine call_name (m := fun us => g (us ++ ds)) hn0 hs ha hdb hg hm hk fun pins s σ H Q us vs ρ h as I r r1 r2 r3 q => ?_
  exact run_fnW (CX := X) F hr d3 d2 tk I r ⟨ρ, h, as ++ ds, r1, r2.append (d1 ρ H), by rw [List.length_append, r3]; exact hnp, q⟩
/-- C(..), an own class -/
theorem e_mk {x : Str} {k np : Nat} {f C : Addr} {fd : FuncData} {ps : List Str} {g : List U → M U} {ds : List U} (hn0 : es = [] → ms = []) (hs : ∀ e ∈ es, ∀ x p, e ≠ .Starred x p) (ha : PA X es (qA X W (evL ms))) (hdb : (x == ("__debug__" : Str)) = false) (hg : Gl X x)
    (F : FnOk X.prog X.w X.K X.mg X.base (L2.CX X.prog X.w) k f fd ps (spU X.K X.mg (np + 1) g)) (hr : Room (k + 1) X.A) (hm : X.mg x = some (.ref C)) (mk : Mk X.K C f) (hd : Dfl X.K fd ps ds) (hnp : ms.length + ds.length = np) (tk : Takes X W) :
    PE X (.Call (.Name x p) es [] pos) (qE X W (xFn (mkU x g) ds ms)) := by
  obtain ⟨dvs, dws, d1, d2, d3⟩ := hd
  refine call_name (m := fun us => mkU x g (us ++ ds)) hn0 hs ha hdb hg hm mk.kp fun pins s σ H Q us vs ρ h as I r r1 r2 r3 q => ?_
  -- the new instance and its dict
  have hf1 : H (s.heap.objs.size + 1) = none := I.hok.fresh (Nat.le_succ _)
  have hf2 : H s.heap.objs.size = none := I.hok.fresh (Nat.le_refl _)
  have hne : s.heap.objs.size ≠ s.heap.objs.size + 1 := Nat.ne_of_lt (Nat.lt_succ_self _)
  have I2 := Inv.made (C := C) I
  have r1b : RepH X.K X.mg ρ h (upd H s.heap.objs.size (.own (s.heap.objs.size + 1))) := r1.upd_new hf2
  have hf3 : upd H s.heap.objs.size (.own (s.heap.objs.size + 1)) (s.heap.objs.size + 1) = none := by rw [upd_ne (Ne.symm hne)]; exact hf1
  have r1c : RepH X.K X.mg (ρ ++ [s.heap.objs.size + 1]) (h ++ [.ins x []]) (upd (upd H s.heap.objs.size (.own (s.heap.objs.size + 1))) (s.heap.objs.size + 1) (.ins C s.heap.objs.size [])) :=
    r1b.push hf3 ⟨C, s.heap.objs.size, [], hm, upd_same, rfl⟩
  have ex : Ext ρ H (ρ ++ [s.heap.objs.size + 1]) (upd (upd H s.heap.objs.size (.own (s.heap.objs.size + 1))) (s.heap.objs.size + 1) (.ins C s.heap.objs.size [])) := (Ext.upd_new (ρ := ρ) hf2).trans (.push hf3)
  have rr : RepV X.K (ρ ++ [s.heap.objs.size + 1]) (upd (upd H s.heap.objs.size (.own (s.heap.objs.size + 1))) (s.heap.objs.size + 1) (.ins C s.heap.objs.size [])) (.ref h.length) (.ref (s.heap.objs.size + 1)) := by
    unfold RepV
    exact ⟨_, by rw [← r1.len]; simp, rfl⟩
  have rs := RepVs.cons rr ((r2.append (d1 ρ H)).ext ex)
  have rv2 : Vals (V.ref (s.heap.objs.size + 1) :: (vs ++ dvs)) (Value.ref (s.heap.objs.size + 1) :: (us ++ dws)) := .cons rfl (r.append d2)
  unfold mkU at q
  have hq : spU X.K X.mg (np + 1) g (V.ref (s.heap.objs.size + 1) :: (vs ++ dvs)) (upd (upd H s.heap.objs.size (.own (s.heap.objs.size + 1))) (s.heap.objs.size + 1) (.ins C s.heap.objs.size []))
      (fun v H2 => v = .non ∧ Q (.ref (s.heap.objs.size + 1)) H2) (fun c d H' => W c d σ H') := by
    refine ⟨_, _, _, r1c, rs, by rw [List.length_cons, List.length_append, r3, hnp], ?_⟩
    refine Post.bind (Post.ext ex q) fun v ρ1 h1 H1 x1 rep1 p1 z rz => ?_
    by_cases hv : v = .non
    · subst hv
      rw [if_pos rfl] at p1
      unfold RepV at rz
      exact ⟨rz, Post.v p1 rep1 (rr.ext x1)⟩
    · rw [if_neg hv] at p1
      exact p1.elim
  have hl : (Value.ref (s.heap.objs.size + 1) :: us ++ dws).length = ps.length := by
    have e := rv2.length
    rw [F.len _ _ _ _ hq] at e
    exact e.symm
  refine wpAny_call (make_map (f := f) I.kIn mk.makes mk.init (beq_iff_eq.mp mk.fn) (codeAny_mono (F.run _ X.stack _ _ ⟨Value.ref (s.heap.objs.size + 1) :: us, []⟩ (Value.ref (s.heap.objs.size + 1) :: (us ++ dws)) _ _ _ (hr.make C us [])
    (I2.env0.make C us []) (d3 _ (Value.ref (s.heap.objs.size + 1) :: us) I2.kIn hl) rv2 hq) fun r s' hq' => ?_))
  cases r with
  | error e => exact tk e s' (XE.of_call I2 (fun _ _ _ z => z) hq')
  | ok fl =>
    cases fl with
    | ret u =>
      obtain ⟨v, H', I3, rv, ev, q3⟩ := I2.after hq'
      subst ev
      exact ⟨rv, ⟨V.ref (s.heap.objs.size + 1), H', I3, rfl, q3⟩⟩
    | next => exact False.elim hq'
    | brk => exact False.elim hq'
    | cont => exact False.elim hq'
/-- a built-in function -/
theorem e_blt {x : Str} {id : String} {g : List U → M U} (hx : CallR X (.builtin id) (rC X.K X.mg g)) (ha : PA X (e :: es) (qA X W (evL ms))) (hdb : (x == ("__debug__" : Str)) = false) (hn : x ≠ "__name__") (hg : Gl X x) (hm : X.mg x = none) (hv : bootBuiltins x = some (.builtin id))
    (hs : ∀ e' ∈ e :: es, ∀ x p, e' ≠ .Starred x p) : PE X (.Call (.Name x p) (e :: es) [] pos) (qE X W (xB g ms)) :=
  (pe_callB hx hg hm hv ha hn hdb (nostar (hs e List.mem_cons_self) es _) (stars_any fun e' he => hs e' (List.mem_cons_of_mem _ he))).impU fun σ H Q ⟨ρ, h, η, at_, q⟩ =>
    tA.first (k := fun us η => g us) at_ rfl q fun us vs ρ1 h1 H1 at1 x1 rus p1 => ⟨_, ρ1, h1, us, at1.heap, rus, p1⟩
theorem e_ty {x : Str} {id : String} {g : List U → M U} (hx : CallR X (.type id) (rC X.K X.mg g)) (ha : PA X (e :: es) (qA X W (evL ms))) (hdb : (x == ("__debug__" : Str)) = false) (hn : x ≠ "__name__") (hg : Gl X x) (hm : X.mg x = none) (hv : bootBuiltins x = some (.type id))
    (hs : ∀ e' ∈ e :: es, ∀ x p, e' ≠ .Starred x p) : PE X (.Call (.Name x p) (e :: es) [] pos) (qE X W (xB g ms)) :=
  (pe_callTy hx hg hm hv ha hn hdb (nostar (hs e List.mem_cons_self) es _) (stars_any fun e' he => hs e' (List.mem_cons_of_mem _ he))).impU fun σ H Q ⟨ρ, h, η, at_, q⟩ =>
    tA.first (k := fun us η => g us) at_ rfl q fun us vs ρ1 h1 H1 at1 x1 rus p1 => ⟨_, ρ1, h1, us, at1.heap, rus, p1⟩
/-! methods -/
theorem sqN_ty {pins : List (Addr × Obj)} {s : Shared} {a : Addr} {vs : List V} (I : Inv X pins σ H s) (h : SqN X.K H a vs) : s.TypeIs (.ref a) "tuple" ∧ ∀ b, Value.ref a = .ref b → ∃ ob, s.heap.get? b = some ob ∧ ob.dict = none := by
  rcases h with ⟨ob, e, d⟩ | ⟨ob, its, n, k, d, c, _⟩
  · obtain ⟨g, _, its, _, ob2, g2, c, _⟩ := I.hok a _ e
    refine ⟨⟨ob, g, ?_⟩, fun b z => ?_⟩
    · rw [g] at g2
      cases g2
      exact c
    · cases z
      exact ⟨ob, g, d⟩
  · have g := I.kIn a ob k
    refine ⟨⟨ob, g, c⟩, fun b z => ?_⟩
    cases z
    exact ⟨ob, g, d⟩
/-- what the arguments of a method's call leave -/
def QA (X : Cx) (W : WX) (σ : L2.St) (Q : VK) (u : U) (k : List U → M U) (n : Nat) (x : V) : List V → Hp → Prop := fun vs H2 => ∃ ρ2 h2 us, RepH X.K X.mg ρ2 h2 H2 ∧ RepV X.K ρ2 H2 u x ∧ RepVs X.K ρ2 H2 us vs ∧ us.length = n ∧ Post X.K X.mg (fun c d H' => W c d σ H') (RV X.K Q) ρ2 H2 (k us h2)
theorem args_run {ρ : Rho} {h : VH} {η : Env} {k : List U → M U} {u : U} {x : V} (at_ : At X.K X.mg ρ h η σ H) (ru : RepV X.K ρ H u x) (q : Post X.K X.mg (fun c d H' => W c d σ H') (RV X.K Q) ρ H (bnd (evL ms η) k h)) : qA X W (evL ms) σ H (QA X W σ Q u k ms.length x) :=
  tA.firstL (k := fun us η => k us) at_ rfl q fun us vs ρ1 h1 H1 at1 x1 rus hn p1 => ⟨ρ1, h1, us, at1.heap, ru.ext x1, rus, hn, p1⟩
/-- a built-in type's method -/
theorem bm_run {pins : List (Addr × Obj)} {s : Shared} {ρ : Rho} {h : VH} {η : Env} {f : U → List U → M U} {u : U} {x : V} {ov : Value} {T id : String} {m : Str} {pl : Sem Bool} (hn0 : es = [] → ms = []) (hs : ∀ e ∈ es, ∀ x p, e ≠ .Starred x p) (ha : PA X es (qA X W (evL ms)))
    (I : Inv X pins σ H s) (rx : RelV x ov) (at_ : At X.K X.mg ρ h η σ H) (ru : RepV X.K ρ H u x) (q : Post X.K X.mg (fun c d H' => W c d σ H') (RV X.K Q) ρ H (bnd (evL ms η) (fun us => f u us) h))
    (hT : s.TypeIs ov T) (hd : ∀ a, ov = .ref a → ∃ o, s.heap.get? a = some o ∧ o.dict = none) (pa : PlainAttrs T) (slot : Slot T m id) (hty : typeOf (.builtin id) = pure (.type "method_descriptor"))
    (hm : MtR X id (rMt X.K X.mg f)) :
    wpAny (model X.prog X.w) X.A (getMethod ov m pl) (fun fx s₂ => wpAny (model X.prog X.w) X.A (callWith pos fx.1 fx.2 (backTo pos (starEach es X.env)) []) (EP X pins σ Q) X.xe s₂) X.xe s := by
  refine getMethod_builtin hT pa slot hty hd ?_
  cases es with
  | nil =>
    have e0 := hn0 rfl
    subst e0
    exact Calls.callWith_builtin rfl (PySem.evalArgs_none (hm pins s σ H x [] ov [] Q I rx .nil ⟨_, ρ, h, u, [], at_.heap, ru, rfl, q⟩))
  | cons e es =>
    have hA := ha.run pos pins s σ H _ I (args_run at_ ru q)
    have he := nostar (hs e List.mem_cons_self) es X.env
    have hpl : (backTo pos (starEach es X.env)).any (·.1) = false := stars_any fun e' he => hs e' (List.mem_cons_of_mem _ he)
    rw [he] at hA ⊢
    refine Calls.callWith_builtin (by show (false || (backTo pos (starEach es X.env)).any (·.1)) = false; rw [hpl] <;> rfl) (Calls.evalArgs_plain ?_)
    exact thn hA fun us s2 ⟨vs, H2, I2, r2, ρ2, h2, as, r3, r4, r5, _, q2⟩ => hm pins s2 σ H2 x vs ov us Q I2 rx r2 ⟨_, ρ2, h2, u, as, r3, r4, r5, q2⟩
theorem e_mth {m : Str} {G : Str → Str → List U → M U} {cs : List Str} {ds : List U} (hb : baseOk o = true) (hline : (apos.endLine == pos.line) = true) (hl : es.length < 29) (hn0 : es = [] → ms = []) (hs : ∀ e ∈ es, ∀ x p, e ≠ .Starred x p) (ho : PE X o (qE X W mo)) (ha : PA X es (qA X W (evL ms)))
    (hc : ∀ c ∈ cs, ∃ (k np : Nat) (f C : Addr) (fd : FuncData) (ps : List Str), FnOk X.prog X.w X.K X.mg X.base (L2.CX X.prog X.w) k f fd ps (spU X.K X.mg (np + 1) (G c m)) ∧ Room k X.A ∧ X.mg c = some (.ref C) ∧ Cls X.K C ∧ Meth X.K C m f ∧ Dfl X.K fd ps ds ∧ ms.length + ds.length = np) (tk : Takes X W) :
    PE X (.Call (.Attribute o m apos) es [] pos) (qE X W (xMth G m cs ds mo ms)) := by
  refine ⟨fun pins s σ H Q I ⟨ρ, h, η, at_, q⟩ => ?_⟩
  refine call_attr (base_eq hb) (stars_few hs hl) hline (thn (ho.run pins s σ H (fun v H1 => ∃ u ρ1 h1, At X.K X.mg ρ1 h1 η σ H1 ∧ RepV X.K ρ1 H1 u v ∧ Post X.K X.mg (fun c d H' => W c d σ H') (RV X.K Q) ρ1 H1 (callM G m cs ds u (evL ms η) h1)) I
    (tE.first (k := fun u η => callM G m cs ds u (evL ms η)) at_ rfl q fun u x ρ1 h1 H1 at1 x1 ru p1 => ⟨u, ρ1, h1, at1, ru, p1⟩)) fun ov s1 hh => ?_)
  intro pl
  obtain ⟨x, H1, I1, rx, u, ρ1, h1, at1, ru, p1⟩ := hh
  clear q
  unfold callM at p1
  cases u with
  | str z =>
    simp only at p1
    by_cases hm : m = "join"
    · subst hm
      rw [if_pos rfl] at p1
      have ru' := ru
      unfold RepV at ru'
      obtain ⟨hT, hd⟩ := tyV_is (T := "str") I1 rx (by rw [ru']; rfl)
      exact bm_run (f := strM "join") hn0 hs ha I1 rx at1 ru p1 hT hd F.plainAttrs_str F.slot_str_join F.type_str_join m_join
    · rw [if_neg hm] at p1
      exact p1.elim
  | tup z =>
    simp only at p1
    by_cases hm : m = "index"
    · subst hm
      rw [if_pos rfl] at p1
      have ru' := ru
      unfold RepV at ru'
      obtain ⟨a, vs, rfl, hN, _⟩ := ru'
      obtain rfl : ov = Value.ref a := rx
      obtain ⟨hT, hd⟩ := sqN_ty I1 hN
      exact bm_run (f := tupM "index") (x := V.ref a) hn0 hs ha I1 (show Value.ref a = Value.ref a from rfl) at1 ru p1 hT hd F.plainAttrs_tuple F.slot_tuple_index F.type_tuple_index m_tindex
    · rw [if_neg hm] at p1
      exact p1.elim
  | ref n =>
    simp only at p1
    cases e1 : h1[n]? with
    | none => simp only [e1] at p1; exact p1.elim
    | some vo =>
      obtain ⟨a, r1, f1, ro⟩ := RepV.ref_at at1.heap ru e1
      cases vo with
      | lst xs =>
        simp only [e1] at p1
        obtain ⟨vs, g1, _⟩ := ro
        obtain ⟨hT, hd⟩ := tyV_is (T := "list") I1 rx (by rw [f1]; exact .inl ⟨rfl, vs, SqL.of g1⟩)
        by_cases hm : m = "append" ∨ m = "extend" ∨ m = "pop" ∨ m = "index"
        · rw [if_pos hm] at p1
          rcases hm with rfl | rfl | rfl | rfl
          · exact bm_run (f := lstM "append") hn0 hs ha I1 rx at1 ru p1 hT hd F.plainAttrs_list F.slot_list_append F.type_list_append m_append
          · exact bm_run (f := lstM "extend") hn0 hs ha I1 rx at1 ru p1 hT hd F.plainAttrs_list F.slot_list_extend F.type_list_extend m_extend
          · exact bm_run (f := lstM "pop") hn0 hs ha I1 rx at1 ru p1 hT hd F.plainAttrs_list F.slot_list_pop F.type_list_pop m_pop
          · exact bm_run (f := lstM "index") hn0 hs ha I1 rx at1 ru p1 hT hd F.plainAttrs_list F.slot_list_index F.type_list_index m_index
        · rw [if_neg hm] at p1
          exact p1.elim
      | ins c fs =>
        simp only [e1] at p1
        by_cases hcc : c ∈ cs ∧ fs.lookup m = none
        · rw [if_pos hcc] at p1
          obtain ⟨C, dx, fv, k1, k2, k3⟩ := ro
          obtain ⟨k, np, f, C', fd, ps, F, hr, hC, cl, me, ⟨dvs, dws, d1, d2, d3⟩, hnp⟩ := hc c hcc.1
          rw [k1] at hC
          cases hC
          subst f1
          obtain rfl : ov = Value.ref a := rx
          refine getmeth_ok I1 k2 cl me (k3.lookup_none hcc.2) ?_
          cases es with
          | nil =>
            have e0 := hn0 rfl
            subst e0
            refine PySem.W.callWith_K0 (first := [.ref a]) I1.kIn me.kp ?_
            refine run_fnW (CX := X) (us := [.ref a]) (vs := [.ref a]) F hr d3 d2 tk I1 (.cons rfl .nil) ⟨ρ1, h1, .ref n :: ([] ++ ds), at1.heap, ?_, ?_, p1⟩
            · exact RepVs.cons ru (d1 ρ1 H1)
            · rw [List.length_cons, List.length_append]
              exact congrArg (· + 1) hnp
          | cons e es =>
            have hA := ha.run pos pins s1 σ H1 _ I1 (args_run (k := fun us => G c m (.ref n :: (us ++ ds))) at1 ru p1)
            refine PySem.W.callWith_K (first := [.ref a]) (h₀ := X.base) I1.ok.mod.kin me.kp (thn hA fun us s2 ⟨vs, H2, I2, r2, ρ2, h2, as, r3, r4, r5, r6, q2⟩ => ⟨I2.kIn, ?_⟩) (nostar (hs e List.mem_cons_self) es _) (stars_any fun e' he => hs e' (List.mem_cons_of_mem _ he))
            refine run_fnW (CX := X) (us := .ref a :: us) (vs := .ref a :: vs) F hr d3 d2 tk I2 (.cons rfl r2) ⟨ρ2, h2, .ref n :: (as ++ ds), r3, ?_, ?_, q2⟩
            · exact RepVs.cons r4 (r5.append (d1 ρ2 H2))
            · rw [List.length_cons, List.length_append, r6]
              exact congrArg (· + 1) hnp
        · rw [if_neg hcc] at p1
          exact p1.elim
      | _ => simp only [e1] at p1; exact p1.elim
  | _ => exact p1.elim
end
end MP
/-! MPj: isinstance, tests, what is walked, targets, comprehensions. -/
namespace MP
open PySem L2

section
variable {X : Cx} {W : WX} {e a b c o : Expr} {ma mb mc mo : EM} {ms : List EM} {es : List Expr} {pos p apos : Pos} {σ : L2.St} {H : Hp} {Q : VK} {ρ : Rho} {h : VH}
/-- what isinstance needs of a class -/
structure IsF (P : Program) (K : PySem.W.Frag) (mg : Str → Option Value) (kc : List Str) (c : Str) (v : V) (t : Value) : Prop where
  at_ : (mg c = none ∧ bootBuiltins c = some t ∧ c ≠ "__name__") ∨ mg c = some t
  cv : ClsV v t
  rel : RelV v t
  kit : PySem.W.kitOne K (.type "NoneType") t = some false ∧ PySem.W.kitOne K (.type "bool") t = some (decide (c = "bool") || decide (c = "int")) ∧ PySem.W.kitOne K (.type "int") t = some (decide (c = "int")) ∧
      PySem.W.kitOne K (.type "str") t = some (decide (c = "str")) ∧ PySem.W.kitOne K (.type "tuple") t = some (decide (c = "tuple")) ∧ PySem.W.kitOne K (.type "list") t = some (decide (c = "list")) ∧
      PySem.W.kitOne K (.type "dict") t = some (decide (c = "dict"))
  own : ∀ d ∈ kc, ∀ D, mg d = some (.ref D) → PySem.W.kitOne K (.ref D) t = some (decide (c = d))
def InsF (K : PySem.W.Frag) (mg : Str → Option Value) (kc : List Str) : Prop := ∀ d ∈ kc, ∀ D, mg d = some (.ref D) → Cls K D ∧ PySem.W.findIn K (.ref D) "__class__" = some (some (.builtin "object.__class__")) ∧
    PySem.W.specialIn K (.builtin "object.__class__") "__get__" = some (some (.builtin "getset_descriptor.__get__")) ∧ PySem.W.takesIn K (.builtin "object.__class__") = some true ∧ PySem.W.mroIn K D (.type "object") = some true
/-- the type of a value -/
theorem ty_rep {K : PySem.W.Frag} {mg : Str → Option Value} {kc : List Str} (hi : InsF K mg kc) (rep : RepH K mg ρ h H) {u : U} {x : V} (ru : RepV K ρ H u x) (hk : ∀ n c fs, u = .ref n → h[n]? = some (.ins c fs) → c ∈ kc) (hn : ∀ n, u = .ref n → ∃ o, h[n]? = some o ∧ ∀ kvs, o ≠ .dct kvs) :
    ∃ t, TyX K H x t ∧ ∀ c v tv P, IsF P K mg kc c v tv → PySem.W.kitOne K t tv = (isC kc c u h) := by
  cases u with
  | non => unfold RepV at ru; subst ru; exact ⟨_, .base .non, fun c v tv P F => F.kit.1⟩
  | bl b => unfold RepV at ru; subst ru; exact ⟨_, .base (.bl b), fun c v tv P F => F.kit.2.1⟩
  | int b => unfold RepV at ru; subst ru; exact ⟨_, .base (.int b), fun c v tv P F => F.kit.2.2.1⟩
  | str b => unfold RepV at ru; subst ru; exact ⟨_, .base (.str b), fun c v tv P F => F.kit.2.2.2.1⟩
  | tup us =>
    unfold RepV at ru
    obtain ⟨q, vs, rfl, hN, _⟩ := ru
    rcases hN with ⟨ob, e, _⟩ | ⟨ob, its, n, k, _, c, _⟩
    · exact ⟨_, .fTuple e, fun c v tv P F => F.kit.2.2.2.2.1⟩
    · exact ⟨_, .kTuple k c, fun c v tv P F => F.kit.2.2.2.2.1⟩
  | ref n =>
    cases e1 : h[n]? with
    | none =>
      obtain ⟨o, z, _⟩ := hn n rfl
      rw [e1] at z
      cases z
    | some vo =>
      obtain ⟨q, r1, rfl, ro⟩ := RepV.ref_at rep ru e1
      cases vo with
      | lst xs =>
        obtain ⟨vs, g, _⟩ := ro
        exact ⟨_, .base (.lst g), fun c v tv P F => by rw [F.kit.2.2.2.2.2.1]; simp only [isC, e1]⟩
      | frz xs =>
        obtain ⟨vs, g, _⟩ := ro
        rcases g with ⟨ob, g⟩ | ⟨ob, its, m, k, c, _⟩
        · exact ⟨_, .base (.frz g), fun c v tv P F => by rw [F.kit.2.2.2.2.2.1]; simp only [isC, e1]⟩
        · exact ⟨_, .kList k c, fun c v tv P F => by rw [F.kit.2.2.2.2.2.1]; simp only [isC, e1]⟩
      | dct kvs =>
        obtain ⟨o, z, z2⟩ := hn n rfl
        rw [e1] at z
        cases z
        exact (z2 kvs rfl).elim
      | ins d fs =>
        obtain ⟨C, dx, fv, k1, k2, _⟩ := ro
        have hd := hk n d fs rfl e1
        obtain ⟨i1, i2, i3, i4, i5⟩ := hi d hd C k1
        exact ⟨_, .base (.ins k2 i1 i2 i3 i4 i5), fun c v tv P F => by
          rw [F.own d hd C k1]
          simp only [isC, e1]
          rw [if_pos hd]⟩
theorem isC_def {kc : List Str} {c : Str} {u : U} {b : Bool} (e : isC kc c u h = some b) : (∀ n c fs, u = .ref n → h[n]? = some (.ins c fs) → c ∈ kc) ∧ ∀ n, u = .ref n → ∃ o, h[n]? = some o ∧ ∀ kvs, o ≠ .dct kvs := by
  refine ⟨fun n d fs hu hn => ?_, fun n hu => ?_⟩
  · subst hu
    unfold isC at e
    simp only [hn] at e
    by_cases hd : d ∈ kc
    · exact hd
    · rw [if_neg hd] at e
      cases e
  · subst hu
    unfold isC at e
    cases e1 : h[n]? with
    | none => simp only [e1] at e; cases e
    | some o =>
      cases o with
      | dct kvs => simp only [e1] at e; cases e
      | _ => exact ⟨_, rfl, fun _ z => nomatch z⟩
/-- a class's name as an argument -/
theorem e_cls {x : Str} {v : V} {t : Value} {kc : List Str} {pos : Pos} (F : IsF X.prog X.K X.mg kc x v t) (hg : Gl X x) (hd : (x == ("__debug__" : Str)) = false) : PE X (.Name x pos) (tC v) := by
  rcases F.at_ with ⟨h1, h2, h3⟩ | h1
  · exact pe_bltn hg h1 h2 F.rel h3 hd
  · exact pe_glob hg h1 F.rel hd
theorem e_is1 {x : Str} {v : V} {t : Value} {kc : List Str} {p1 p2 : Pos} (hi : InsF X.K X.mg kc) (F : IsF X.prog X.K X.mg kc x v t) (hg : Gl X x) (hd : (x == ("__debug__" : Str)) = false) (hgI : Gl X "isinstance") (hmI : X.mg "isinstance" = none) (hs : ∀ x p, a ≠ .Starred x p)
    (ha : PE X a (qE X W ma)) : PE X (.Call (.Name "isinstance" p) [a, .Name x p1] [] pos) (qE X W (xIs kc [x] ma)) :=
  (pe_callB call_isi hgI hmI (by decide +kernel) (pa_cons ha (pa_cons (e_cls F hg hd) pa_nil) (nostar hs _ _)) (by decide) (by decide) (nostar hs _ _) rfl).impU fun σ H Q ⟨ρ, h, η, at_, q⟩ => by
    refine tE.first (k := fun u η => isF kc [x] u) at_ rfl q fun u y ρ1 h1 H1 at1 x1 ru p1 => ?_
    unfold isF isCs at p1
    cases e : isC kc x u h1 with
    | none => simp only [e] at p1; exact p1.elim
    | some b =>
      obtain ⟨d1, d2⟩ := isC_def e
      obtain ⟨t', ty, kk⟩ := ty_rep hi at1.heap ru d1 d2
      have k1 := kk x v t X.prog F
      rw [e] at k1
      have p2 : Post X.K X.mg (fun c d H' => W c d σ H') (RV X.K Q) ρ1 H1 (.ok (.bl b) h1) := by
        cases b <;> (simp only [e, isCs] at p1; exact p1)
      exact ⟨y, v, t', t, b, rfl, F.cv, ty, k1, Post.v p2 at1.heap rfl⟩
theorem e_is2 {x z : Str} {v v2 : V} {t t2 : Value} {kc : List Str} {k : Nat} {p1 p2 p3 : Pos} (hi : InsF X.K X.mg kc) (F : IsF X.prog X.K X.mg kc x v t) (F2 : IsF X.prog X.K X.mg kc z v2 t2) (hg : Gl X x) (hd : (x == ("__debug__" : Str)) = false) (hg2 : Gl X z) (hd2 : (z == ("__debug__" : Str)) = false)
    (hgI : Gl X "isinstance") (hmI : X.mg "isinstance" = none) (hs : ∀ x p, a ≠ .Starred x p)
    (ha : PE X a (qE X W ma)) : PE X (.Call (.Name "isinstance" p) [a, .Tuple [.Name x p1, .Name z p2] k p3] [] pos) (qE X W (xIs kc [x, z] ma)) :=
  (pe_callB call_isiT hgI hmI (by decide +kernel) (pa_cons ha (pa_cons (pe_tup (pa_cons (e_cls F hg hd) (pa_cons (e_cls F2 hg2 hd2) pa_nil))) pa_nil) (nostar hs _ _)) (by decide) (by decide) (nostar hs _ _) rfl).impU fun σ H Q ⟨ρ, h, η, at_, q⟩ => by
    refine tE.first (k := fun u η => isF kc [x, z] u) at_ rfl q fun u y ρ1 h1 H1 at1 x1 ru p1 => ?_
    refine ⟨by show 2 ≤ sizeLine; rw [sizeLine_eq]; decide, fun tp htp => ?_⟩
    unfold isF isCs at p1
    cases e : isC kc x u h1 with
    | none => simp only [e] at p1; exact p1.elim
    | some b =>
      obtain ⟨d1, d2⟩ := isC_def e
      have r2 := at1.heap.upd_new (o := .tup [v, v2]) htp
      obtain ⟨t', ty, kk⟩ := ty_rep hi r2 (ru.ext (.upd_new htp)) d1 d2
      have k1 := kk x v t X.prog F
      have k2 := kk z v2 t2 X.prog F2
      rw [e] at k1
      have fin : ∀ r : Bool, Post X.K X.mg (fun c d H' => W c d σ H') (RV X.K Q) ρ1 H1 (.ok (.bl r) h1) → Q (.bl r) (upd H1 tp (.tup [v, v2])) := fun r p2 => p2 ρ1 _ (.upd_new htp) r2 _ rfl
      cases b with
      | true =>
        simp only [e] at p1
        exact ⟨y, tp, [v, v2], t', [t, t2], true, rfl, upd_same, .cons F.cv (.cons F2.cv .nil), ty, kitAny_cons k1 (fun z => nomatch z) (fun _ => rfl), fin true p1⟩
      | false =>
        simp only [e] at p1
        unfold isCs at p1
        cases e2 : isC kc z u h1 with
        | none => simp only [e2] at p1; exact p1.elim
        | some b2 =>
          rw [e2] at k2
          have p2 : Post X.K X.mg (fun c d H' => W c d σ H') (RV X.K Q) ρ1 H1 (.ok (.bl b2) h1) := by
            cases b2 <;> (simp only [e2, isCs] at p1; exact p1)
          exact ⟨y, tp, [v, v2], t', [t, t2], b2, rfl, upd_same, .cons F.cv (.cons F2.cv .nil), ty, kitAny_cons k1 (fun _ => kitAny_cons k2 (fun z => by rw [z]; exact kitAny_nil) (fun z => z)) (fun z => nomatch z), fin b2 p2⟩

/-! ### tests -/
def plainT : Expr → Bool
  | .UnaryOp .Not _ _ => false
  | .BoolOp _ _ _ => false
  | .IfExp _ _ _ _ => false
  | .Compare _ _ _ _ => false
  | _ => true
theorem t_plain (hp : plainT a = true) (ha : PE X a (qE X W ma)) : PT X a (qT X W (tU ma)) := by
  have he : ∀ whole, isTrue a X.env whole = (do let v ← whole; standAt a.pos; holding [v] (truthy v)) := by
    intro whole
    cases a with
    | UnaryOp op x y => cases op <;> first | rfl | exact absurd hp (by simp [plainT])
    | BoolOp _ _ _ => exact absurd hp (by simp [plainT])
    | IfExp _ _ _ _ => exact absurd hp (by simp [plainT])
    | Compare _ _ _ _ => exact absurd hp (by simp [plainT])
    | _ => rfl
  exact (pt_truth ha he).impU fun σ H Q ⟨ρ, h, η, at_, q⟩ => by
    refine tE.first (k := fun u η => truB u) at_ rfl q fun u y ρ1 h1 H1 at1 x1 ru p1 => ?_
    have p2 : Post X.K X.mg (fun c d H' => W c d σ H') (RB Q) ρ1 H1 (bnd (truB u) mret h1) := by
      unfold bnd
      cases e : truB u h1 with
      | ok b h' => rw [e] at p1; exact p1
      | exc c fs h' => exact (truB_exc e).elim
      | bad => rw [e] at p1; exact p1
    obtain ⟨b, tb, p3⟩ := tru_of rfl rfl at1.heap ru p2
    exact ⟨b, tb, p3 ρ1 H1 .refl at1.heap⟩
theorem bl_end {Q : Bool → Hp → Prop} {E : XK} {α : Type} {K : PySem.W.Frag} {mg : Str → Option Value} {u : U} (p : Post K mg E (RB Q) ρ H ((match u with | .bl b => mret b | _ => (mbad : M Bool)) h)) (r : RepH K mg ρ h H) {z : V} (rz : RepV K ρ H u z) : ∃ k, z = .bl k ∧ Q k H := by
  cases u <;> try exact p.elim
  unfold RepV at rz
  exact ⟨_, rz, p ρ H .refl r⟩
theorem i_tBl {m : EM} {t : TE} (hi : ∀ σ H Q, qE X W m σ H Q → t σ H Q) (σ : L2.St) (H : Hp) (Q : Bool → Hp → Prop) (q : qT X W (tBl m) σ H Q) : tTest t σ H Q := by
  obtain ⟨ρ, h, η, at_, p⟩ := q
  refine hi σ H _ (tE.first (k := fun u η => match u with
    | .bl b => mret b
    | _ => mbad) at_ rfl p fun u y ρ1 h1 H1 at1 x1 ru p1 => ?_)
  exact bl_end (α := Unit) p1 at1.heap ru
theorem t_cmp {op : CmpOp} {f : O2} (ho : OpR X (compareOp op) (rO X.K X.mg f)) (hm : behindInMarks op b = false) (ha : PE X a (qE X W ma)) (hb : PE X b (qE X W mb)) : PT X (.Compare a [op] [b] pos) (qT X W (tBl (xOp f ma mb))) :=
  (pt_cmpR ho ha hb hm).impU (i_tBl i_op)
theorem t_chain {op op' : CmpOp} {f g : O2} (ho : OpR X (compareOp op) (rO X.K X.mg f)) (ho' : OpR X (compareOp op') (rO X.K X.mg g)) (ha : PE X a (qE X W ma)) (hb : PE X b (qE X W mb)) (hc : PE X c (qE X W mc)) (hm : lastMarks [op, op'] [b, c] = false) :
    PT X (.Compare a [op, op'] [b, c] pos) (qT X W (tBl (xChain f g ma mb mc))) :=
  (pt_chain ho ho' ha hb hc hm).impU (i_tBl i_chain)
theorem t_not {mt : TM} (ha : PT X a (qT X W mt)) : PT X (.UnaryOp .Not a pos) (qT X W (tNot mt)) :=
  (pt_not ha).impU fun σ H Q ⟨ρ, h, η, at_, q⟩ =>
    tT.first (k := fun c η => mret (!c)) at_ rfl q fun k ρ1 h1 H1 at1 x1 p1 => p1 ρ1 H1 .refl at1.heap
theorem t_and {mt mu : TM} {rest : List Expr} (ha : PT X a (qT X W mt)) (hb : PW X (.BoolOp .And (b :: rest) pos) (qT X W mu)) : PW X (.BoolOp .And (a :: b :: rest) pos) (qT X W (tAnd mt mu)) :=
  (pw_and ha hb).impU fun σ H Q ⟨ρ, h, η, at_, q⟩ =>
    tT.first (k := fun c η => if c = true then mu η else mret false) at_ rfl q fun k ρ1 h1 H1 at1 x1 p1 => by
      cases k with
      | true => exact ⟨ρ1, h1, η, at1, p1⟩
      | false => exact p1 ρ1 H1 .refl at1.heap
theorem t_or {mt mu : TM} {rest : List Expr} (ha : PT X a (qT X W mt)) (hb : PW X (.BoolOp .Or (b :: rest) pos) (qT X W mu)) : PW X (.BoolOp .Or (a :: b :: rest) pos) (qT X W (tOr mt mu)) :=
  (pw_or ha hb).impU fun σ H Q ⟨ρ, h, η, at_, q⟩ =>
    tT.first (k := fun c η => if c = true then mret true else mu η) at_ rfl q fun k ρ1 h1 H1 at1 x1 p1 => by
      cases k with
      | true => exact p1 ρ1 H1 .refl at1.heap
      | false => exact ⟨ρ1, h1, η, at1, p1⟩

/-! ### what is walked -/
/-- a pair that was just laid -/
def RepW (K : PySem.W.Frag) (ρ : Rho) (H : Hp) (u : U) (x : V) : Prop := ∃ us, u = .tup us ∧ ∃ a vs, x = .ref a ∧ SqT K H a vs ∧ RepVs K ρ H us vs
def RepT (pr : Bool) (K : PySem.W.Frag) (ρ : Rho) (H : Hp) (u : U) (x : V) : Prop := if pr = true then RepW K ρ H u x else RepV K ρ H u x
structure ItOk (K : PySem.W.Frag) (mg : Str → Option Value) (pr : Bool) (J : It) (I : Itr) (ρ0 : Rho) (H0 : Hp) : Prop where
  stop : ∀ ρ h H, Ext ρ0 H0 ρ H → RepH K mg ρ h H → okW I.w h = true → J.stop I.us.length H
  go : ∀ i ρ h H, i < I.us.length → Ext ρ0 H0 ρ H → RepH K mg ρ h H → okW I.w h = true → J.go i H
  yld : ∀ i u ρ h H x H', I.us[i]? = some u → Ext ρ0 H0 ρ H → RepH K mg ρ h H → okW I.w h = true → J.yld i H x H' → Ext ρ H ρ H' ∧ RepH K mg ρ h H' ∧ RepT pr K ρ H' u x
def qI (X : Cx) (W : WX) (pr : Bool) (m : Env → M Itr) : TI := fun σ H R => ∃ ρ h η, At X.K X.mg ρ h η σ H ∧ Post X.K X.mg (fun c d H' => W c d σ H') (fun I ρ' H' => ∀ J, ItOk X.K X.mg pr J I ρ' H' → R J H') ρ H (m η h)
theorem tup_it {us : List U} {vs : List V} {K : PySem.W.Frag} {mg : Str → Option Value} {q : Addr} (hN : SqN K H q vs) (r : RepVs K ρ H us vs) : ItOk K mg false (Itt K q) ⟨[], us⟩ ρ H where
  stop := fun ρ' h H' x _ _ => ⟨vs, (x.sqN hN).sqT, by rw [← r.len]; exact Nat.le_refl _⟩
  go := fun i ρ' h H' hi x _ _ => by
    obtain ⟨v, h1, _⟩ := r.get (List.getElem?_eq_getElem hi)
    exact ⟨vs, v, (x.sqN hN).sqT, h1⟩
  yld := fun i u ρ' h H' y H'' hu x rep _ hy => by
    obtain ⟨e, hy⟩ := hy
    subst e
    refine ⟨.refl, rep, ?_⟩
    have h1 := hy vs (x.sqN hN).sqT
    obtain ⟨v, h2, h3⟩ := r.get hu
    rw [h1] at h2
    cases h2
    exact h3.ext x
theorem okW_at {w : List (Nat × VO)} {n : Nat} {o : VO} (e : okW w h = true) (hm : (n, o) ∈ w) : h[n]? = some o := of_decide_eq_true (List.all_eq_true.mp e _ hm)
theorem okW_one {n : Nat} {o : VO} (e : okW [(n, o)] h = true) : h[n]? = some o := okW_at e List.mem_cons_self
theorem lst_it {us : List U} {K : PySem.W.Frag} {mg : Str → Option Value} {q : Addr} {n : Nat} (e : ρ[n]? = some q) : ItOk K mg false (Itl K q) ⟨[(n, .lst us)], us⟩ ρ H where
  stop := fun ρ' h H' x rep w => by
    obtain ⟨vs, h1, h2⟩ := rep.at_ n _ q (okW_one w) (x.at e)
    exact ⟨vs, SqL.of h1, by rw [← h2.len]; exact Nat.le_refl _⟩
  go := fun i ρ' h H' hi x rep w => by
    obtain ⟨vs, h1, h2⟩ := rep.at_ n _ q (okW_one w) (x.at e)
    obtain ⟨v, h3, _⟩ := h2.get (List.getElem?_eq_getElem hi)
    exact ⟨vs, v, SqL.of h1, h3⟩
  yld := fun i u ρ' h H' y H'' hu x rep w hy => by
    obtain ⟨e', hy⟩ := hy
    subst e'
    refine ⟨.refl, rep, ?_⟩
    obtain ⟨vs, h1, h2⟩ := rep.at_ n _ q (okW_one w) (x.at e)
    have h3 := hy vs (SqL.of h1)
    obtain ⟨v, h4, h5⟩ := h2.get hu
    rw [h3] at h4
    cases h4
    exact h5
def FrzAt (K : PySem.W.Frag) (H : Hp) (a : Addr) (vs : List V) : Prop := (∃ o, H a = some (.frz o (.lst vs))) ∨
      ∃ (o : Obj) (its : Array Value) (n : Nat), K.lookup a = some o ∧ o.cls = .type "list" ∧ o.dict = none ∧ o.data = .seq its n ∧ its.size ≤ sizeLine ∧ Vals vs its.toList
theorem FrzAt.ext {K : PySem.W.Frag} {ρ' : Rho} {H' : Hp} {q : Addr} {vs : List V} (f : FrzAt K H q vs) (x : Ext ρ H ρ' H') : SqL K H' q vs := by
  rcases f with ⟨o, f⟩ | f
  · exact .inl (.inr ⟨o, x.frzs _ _ _ f⟩)
  · exact .inr f
theorem frz_it {us : List U} {vs : List V} {K : PySem.W.Frag} {mg : Str → Option Value} {q : Addr} (f : FrzAt K H q vs) (r : RepVs K ρ H us vs) : ItOk K mg false (Itl K q) ⟨[], us⟩ ρ H where
  stop := fun ρ' h H' x rep w => ⟨vs, f.ext x, by rw [← r.len]; exact Nat.le_refl _⟩
  go := fun i ρ' h H' hi x rep w => by
    obtain ⟨v, h3, _⟩ := r.get (List.getElem?_eq_getElem hi)
    exact ⟨vs, v, f.ext x, h3⟩
  yld := fun i u ρ' h H' y H'' hu x rep w hy => by
    obtain ⟨e', hy⟩ := hy
    subst e'
    refine ⟨.refl, rep, ?_⟩
    have h3 := hy vs (f.ext x)
    obtain ⟨v, h4, h5⟩ := r.get hu
    rw [h3] at h4
    cases h4
    exact h5.ext x
theorem enumL_get : ∀ {us : List U} {k i : Nat} {u : U}, (enumL k us)[i]? = some u → ∃ w, us[i]? = some w ∧ u = .tup [.int ((k + i : Nat) : Int), w]
  | [], _, _, _, e => by simp [enumL] at e
  | w :: us, k, 0, u, e => ⟨w, rfl, by simp [enumL] at e; exact e.symm⟩
  | w :: us, k, i + 1, u, e => by
    obtain ⟨z, h1, h2⟩ := enumL_get (us := us) (k := k + 1) (i := i) (u := u) (by simpa [enumL] using e)
    exact ⟨z, by simpa using h1, by rw [h2]; congr 4; omega⟩
theorem enumL_len : ∀ (us : List U) (k : Nat), (enumL k us).length = us.length
  | [], _ => rfl
  | _ :: us, k => by unfold enumL; rw [List.length_cons, List.length_cons, enumL_len us]
theorem enum_it {us : List U} {K : PySem.W.Frag} {mg : Str → Option Value} {q : Addr} {w : List (Nat × VO)} (hq : ∀ ρ' h H', Ext ρ H ρ' H' → RepH K mg ρ' h H' → okW w h = true → ∃ vs, SqL K H' q vs ∧ RepVs K ρ' H' us vs) : ItOk K mg true (Ite K q) ⟨w, enumL 0 us⟩ ρ H where
  stop := fun ρ' h H' x rep w => by
    obtain ⟨vs, h1, h2⟩ := hq ρ' h H' x rep w
    exact ⟨vs, h1, by rw [← h2.len]; show us.length ≤ (enumL 0 us).length; rw [enumL_len]; exact Nat.le_refl _⟩
  go := fun i ρ' h H' hi x rep w => by
    obtain ⟨vs, h1, h2⟩ := hq ρ' h H' x rep w
    have hi' : i < us.length := by
      have hi : i < (enumL 0 us).length := hi
      rw [enumL_len] at hi
      exact hi
    obtain ⟨v, h3, _⟩ := h2.get (List.getElem?_eq_getElem hi')
    exact ⟨vs, v, h1, h3⟩
  yld := fun i u ρ' h H' y H'' hu x rep w hy => by
    obtain ⟨T, x0, e1, e2, e3, hy⟩ := hy
    subst e3
    obtain ⟨z, z1, z2⟩ := enumL_get hu
    obtain ⟨vs, h1, h2⟩ := hq ρ' h H' x rep w
    obtain ⟨v, h4, h5⟩ := h2.get z1
    have h6 := hy vs h1
    rw [h6] at h4
    cases h4
    have ex : Ext ρ' H' ρ' (upd H' T (.tup [.int (i : Nat), x0])) := .upd_new e2
    refine ⟨ex, rep.upd_new e2, ?_⟩
    show RepW K ρ' _ u y
    refine ⟨_, z2, T, _, e1, SqT.of upd_same, ?_⟩
    rw [Nat.zero_add]
    exact .cons rfl (.one (h5.ext ex))
theorem rngL_len {lo : Int} {n : Nat} : (rngL lo n).length = n := by unfold rngL; simp
theorem rngL_get {lo : Int} {n i : Nat} {u : U} (h : (rngL lo n)[i]? = some u) : u = .int (lo + (i : Nat)) := by
  have hi : i < n := by
    have := (List.getElem?_eq_some_iff.mp h).1
    rw [rngL_len] at this
    exact this
  unfold rngL at h
  rw [List.getElem?_map, List.getElem?_range hi] at h
  exact (Option.some.inj h).symm
theorem rng_it {lo : Int} {n : Nat} {K : PySem.W.Frag} {mg : Str → Option Value} : ItOk K mg false (L2.Itr lo n) ⟨[], rngL lo n⟩ ρ H where
  stop := fun _ _ _ _ _ _ => by
    show n ≤ (rngL lo n).length
    rw [rngL_len]
    exact Nat.le_refl _
  go := fun i _ _ _ hi _ _ _ => by
    have hi : i < (rngL lo n).length := hi
    rw [rngL_len] at hi
    exact hi
  yld := fun i u ρ' h H' y H'' hu x rep w hy => by
    obtain ⟨e1, e2⟩ := hy
    subst e1
    refine ⟨.refl, rep, ?_⟩
    have hu' := rngL_get hu
    subst hu'
    show RepV K ρ' _ _ y
    unfold RepV
    exact e2
theorem str_it {x : Str} {K : PySem.W.Frag} {mg : Str → Option Value} : ItOk K mg false (L2.Its x) ⟨[], chrs x⟩ ρ H where
  stop := fun _ _ _ _ _ _ => by
    show x.cps.size ≤ (chrs x).length
    unfold chrs
    rw [List.length_map, Array.length_toList]
    exact Nat.le_refl _
  go := fun i _ _ _ hi _ _ _ => by
    have hi : i < (chrs x).length := hi
    unfold chrs at hi
    rw [List.length_map, Array.length_toList] at hi
    exact hi
  yld := fun i u ρ' h H' y H'' hu xx rep w hy => by
    obtain ⟨e1, c, e2, e3⟩ := hy
    subst e1
    refine ⟨.refl, rep, ?_⟩
    have hu : (chrs x)[i]? = some u := hu
    unfold chrs at hu
    rw [List.getElem?_map, Array.getElem?_toList, e2] at hu
    have hu' : U.str ⟨#[c]⟩ = u := Option.some.inj hu
    subst hu'
    show RepV K ρ' _ _ y
    unfold RepV
    exact e3
/-- a list, tuple or text walked -/
theorem i_val {tg it : Expr} {m : EM} (hi : PE X it (qE X W m)) : PI X tg it (qI X W false (itV m)) := by
  refine ⟨fun pins s σ H R I ⟨ρ, h, η, at_, q⟩ => ?_⟩
  -- which rule, by what the value is
  unfold itV bnd at q
  cases e : m η h with
  | bad => rw [e] at q; exact q.elim
  | exc c fs h1 => 
    rw [e] at q
    refine (pi_list (tg := tg) hi).run pins s σ H R I ⟨ρ, h, η, at_, ?_⟩
    rw [e]
    exact q
  | ok u h1 =>
    rw [e] at q
    have key : ∀ (J : V → Hp → (It → Hp → Prop) → Prop), (∀ ρ1 H1 v, Ext ρ H ρ1 H1 → RepH X.K X.mg ρ1 h1 H1 → RepV X.K ρ1 H1 u v → J v H1 R) → qE X W m σ H (fun v H1 => J v H1 R) := fun J hJ =>
      ⟨ρ, h, η, at_, by rw [e]; exact fun ρ1 H1 x r v rv => hJ ρ1 H1 v x r rv⟩
    have q2 : Post X.K X.mg (fun c d H' => W c d σ H') (fun I ρ' H' => ∀ J, ItOk X.K X.mg false J I ρ' H' → R J H') ρ H (itU u h1) := q
    unfold itU at q2
    cases u with
    | tup us =>
      refine (pi_tup (tg := tg) hi).run pins s σ H R I (key (fun v H1 R => ∃ a, v = .ref a ∧ (∃ xs, SqT X.K H1 a xs) ∧ R (Itt X.K a) H1) fun ρ1 H1 v x r rv => ?_)
      unfold RepV at rv
      obtain ⟨a, vs, e1, e2, e3⟩ := rv
      exact ⟨a, e1, ⟨vs, e2.sqT⟩, q2 ρ1 H1 x r _ (tup_it e2 e3)⟩
    | str x =>
      refine (pi_str (tg := tg) hi).run pins s σ H R I (key (fun v H1 R => ∃ x, v = .str x ∧ R (L2.Its x) H1) fun ρ1 H1 v xx r rv => ?_)
      unfold RepV at rv
      exact ⟨x, rv, q2 ρ1 H1 xx r _ str_it⟩
    | ref n =>
      simp only at q2
      cases e1 : h1[n]? with
      | none => simp only [e1] at q2; exact q2.elim
      | some vo =>
        refine (pi_list (tg := tg) hi).run pins s σ H R I (key (fun v H1 R => ∃ a, v = .ref a ∧ (∃ xs, SqL X.K H1 a xs) ∧ R (Itl X.K a) H1) fun ρ1 H1 v x r rv => ?_)
        obtain ⟨a, r1, f1, ro⟩ := RepV.ref_at r rv e1
        cases vo with
        | lst us =>
          simp only [e1] at q2
          obtain ⟨vs, g1, g2⟩ := ro
          exact ⟨a, f1, ⟨vs, SqL.of g1⟩, q2 ρ1 H1 x r _ (lst_it r1)⟩
        | frz us =>
          simp only [e1] at q2
          obtain ⟨vs, g1, g2⟩ := id ro
          obtain ⟨vs', g3, g4⟩ := ro.sqL (.inr rfl)
          exact ⟨a, f1, ⟨vs', g3⟩, q2 ρ1 H1 x r _ (frz_it g1 g2)⟩
        | _ => simp only [e1] at q2; exact q2.elim
    | _ => exact q2.elim
end
end MP
/-! MPu: enumerate of a tuple. -/
namespace MPu
open PySem L2 PySem.Spec PyProof.Rows
open AutoSeq1 (wpAny_loadPart')
/-- the iterator's cell -/
abbrev cellT (t : Addr) : Obj := { cls := .type "tuple_iterator", data := .fields #[.ref t, .int 0 0] }
/-- the cell of enumerate over the iterator at i -/
abbrev cellE (i : Addr) : Obj := { cls := .type "enumerate", data := .fields #[.none, .bool false, .ref i, rawInt 0, .none, .none] }
theorem new_tup (t : Addr) (o : Obj) (its : Array Value) (ht : ∀ h : Heap, h.get? t = some o → h.IsTuple t its) : Meets (Builtin.«enumerate.__new__» ⟨[.type "enumerate", .ref t], []⟩) fun _ R s =>
    s.heap.get? t = some o ∧ R (.ok (.ret (.ref (s.heap.push (cellT t)).objs.size))) { s with heap := (s.heap.push (cellT t)).push (cellE s.heap.objs.size) } :=
  .of_wp fun prog w A R s h => by
    obtain ⟨hp, g, d, tk, os⟩ := s
    obtain ⟨hl, h⟩ := h
    have sub := sub_enumerate
    have hL := ht hp hl
    have q1 : ∀ {A' : Around} {E : Value → Shared → Prop} {Q : Value → Shared → Prop}, Q (.ref hp.objs.size) ⟨hp.push (cellT t), g, d, tk, os⟩ → wpAny (model prog w) A' (pyIter (.ref t)) Q E ⟨hp, g, d, tk, os⟩ := fun q => wpAny_pyIter_tuple hL q
    wp_walk using wpAny_loadPart' hl
    refine wpAny_stack_any fun st => wpAny_pure ?_
    split
    · rename_i c _ _ _ _ _
      cases (c == Value.type "enumerate") <;> (wp_walk using wpAny_loadPart' hl, q1; exact ⟨_, rfl, h⟩)
    · wp_walk using wpAny_loadPart' hl, q1
      exact ⟨_, rfl, h⟩
section
variable {prog : Program} {w : World} {A : Around} {E : Value → Shared → Prop} {s : Shared}
theorem call_enumT {t : Addr} {its : Array Value} {Q : Value → Shared → Prop} (hL : s.heap.IsTuple t its)
    (h : ∀ h', IsEnum h' (s.heap.objs.size + 1) s.heap.objs.size 0 .none → h'.IsTupleIter s.heap.objs.size t 0 → h'.objs.size = s.heap.objs.size + 2 → (∀ b o, s.heap.get? b = some o → h'.get? b = some o) → Q (.ref (s.heap.objs.size + 1)) { s with heap := h' }) :
    wpAny (model prog w) A (call (.type "enumerate") [.ref t]) Q E s := by
  obtain ⟨o, ho, hc⟩ := hL
  have hz : (s.heap.push (cellT t)).objs.size = s.heap.objs.size + 1 := Heap.size_push ..
  have he : IsEnum ((s.heap.push (cellT t)).push (cellE s.heap.objs.size)) (s.heap.objs.size + 1) s.heap.objs.size 0 .none := by
    have e := Heap.get?_push_size (s.heap.push (cellT t)) (o := cellE s.heap.objs.size) rfl
    rw [hz] at e
    exact e
  refine callType_new F.called_enumerate (by decide) (F.typeCall_enumerate_1 _) (F.newCall_enumerate_1 _) (fun obj => F.args_object_init_2 obj _) F.entry_enumerate_new (new_tup t o its fun h z => ⟨o, z, hc⟩) ⟨ho, ?_⟩
  show _ ∧ _
  rw [hz]
  exact ⟨⟨_, he, rfl⟩, h _ he ⟨_, Heap.get?_push_of_some _ (Heap.get?_push_size _ rfl), rfl, rfl⟩ (by rw [Heap.size_push, hz]) fun b o x => Heap.get?_push_of_some _ (Heap.get?_push_of_some _ x)⟩
end
/-- the tuple at a, each item in a new pair -/
def Iet (K : PySem.W.Frag) (a : Addr) : It :=
  ⟨fun i H => ∃ (xs : List V) (x : V), SqT K H a xs ∧ xs[i]? = some x, fun i H v H' => ∃ T x, v = .ref T ∧ H T = none ∧ H' = upd H T (.tup [.int (i : Nat), x]) ∧ ∀ xs, SqT K H a xs → xs[i]? = some x, fun i H => ∃ xs : List V, SqT K H a xs ∧ xs.length = i⟩
theorem turn_enumT {P : Program} {w : World} {K : PySem.W.Frag} {elts : List Expr} {kk : Nat} {tpos : Pos} (a e it : Addr) :
    Turn P w K (.Tuple elts kk tpos) (Iet K a) [e, it] e fun i h => (∃ old, IsEnum h e it ((i : Nat) : Int) old) ∧ h.IsTupleIter it a i ∧ e ≠ it ∧ e ≠ a ∧ a ≠ it where
  mem := List.mem_cons_self
  obj := fun i h st b hb => by
    obtain ⟨⟨old, he⟩, ⟨o, ho, hc, hd⟩, _⟩ := st
    rcases List.mem_cons.mp hb with z | z
    · rw [z]
      exact ⟨_, he, fun v q => nomatch q⟩
    · rw [List.mem_singleton.mp z]
      exact ⟨o, ho, fun v q => by rw [hd] at q; cases q⟩
  keep := fun i h h' st k => by
    obtain ⟨⟨old, he⟩, hi, hne⟩ := st
    exact ⟨⟨old, k e List.mem_cons_self _ he⟩, hi.at fun o q => k it (List.mem_cons_of_mem _ List.mem_cons_self) o q, hne⟩
  item := by
    intro X hP hw hK hc i pins s σ H E I hf st hg
    subst hP hw hK
    obtain ⟨⟨old, he⟩, hit, hne, hea, hai⟩ := st
    obtain ⟨xs, x, hq, hx⟩ := hg
    obtain ⟨its, rv, p, hz⟩ := I.tuple hq
    obtain ⟨u, hu, ru⟩ := rv.get hx
    have hel : e < s.heap.objs.size := Heap.lt_size he
    have hil : it < s.heap.objs.size := by
      obtain ⟨_, q, _⟩ := hit
      exact Heap.lt_size q
    have hlt : i < its.toArray.size := by
      have := (List.getElem?_eq_some_iff.mp hu).1
      simpa using this
    refine wpAny_pyNext_enum_itemD (Draws.tuple (A := X.A.in1) (I.ok.hd hc) it a hai its.toArray) he ⟨hit, p⟩ hlt hne (fun z => ?_) fun x' h' tk hP ho hst hT hsz hk => ?_
    · rcases List.mem_cons.mp z with z | z
      · exact hne z
      · exact hea (List.mem_singleton.mp z)
    have ex' : x' = u := by
      have h1 : its.toArray[i]? = some x' := hP
      have h2 : its.toArray[i]? = some u := by simpa using hu
      rw [h1] at h2
      exact Option.some.inj h2
    subst ex'
    refine ⟨_, rfl, wpAny_letOwnedTupleGo_enum (s := { s with heap := h', toks := tk + 1 }) ho fun h2 he' sb => ?_⟩
    have hT2 : h2.get? s.heap.objs.size = some { cls := .type "tuple", data := .seq #[.int i tk, x'] } := (sb.2 _ (Nat.ne_of_gt hel)).trans hT
    have new : ObjOk X.prog X.w (upd H s.heap.objs.size (.tup [.int (i : Nat), x])) h2 s.heap.objs.size (.tup [.int (i : Nat), x]) := ⟨by show 2 ≤ sizeLine; decide, [.int i tk, x'], .cons ⟨_, rfl⟩ (.cons ru .nil), ⟨_, hT2, rfl, _, rfl⟩⟩
    have I1 : Inv X pins σ (upd H s.heap.objs.size (.tup [.int (i : Nat), x])) { s with heap := h2, toks := tk + 1 } :=
      I.turnedNew (ch := [e, it]) (fun b ob hb q => (sb.2 b fun z => hb (by simp [z])).trans (hk b ob (fun z => hb (by simp [z])) (fun z => hb (by simp [z])) q)) hf (Nat.le_refl _) new
    refine ⟨.ref s.heap.objs.size, _, I1, rfl, ⟨_, x, rfl, I.hok.fresh (Nat.le_refl _), rfl, fun ys hy => by rw [I.tuple_inj hy hq]; exact hx⟩, ⟨⟨x', ?_⟩, hst.1.at fun o q => (sb.2 it (Ne.symm hne)).trans q, hne, hea, hai⟩, fun b hb => ?_⟩
    · have e1 : ((i + 1 : Nat) : Int) = (i : Int) + 1 := by omega
      rw [e1]
      exact he'
    · have hb' : b < s.heap.objs.size := by
        rcases List.mem_cons.mp hb with z | z
        · rw [z]
          exact hel
        · rw [List.mem_singleton.mp z]
          exact hil
      rw [upd_ne (Nat.ne_of_lt hb')]
      exact (hf b hb).1
  done := by
    intro X hP hw hK hc i pins s σ H E I hf st hg
    subst hP hw hK
    obtain ⟨⟨old, he⟩, hit, hne, hea, hai⟩ := st
    obtain ⟨xs, hq, hx⟩ := hg
    obtain ⟨its, rv, p, hz⟩ := I.tuple hq
    obtain ⟨f0, f1, f2, f3, f4, f5⟩ := hf it (List.mem_cons_of_mem _ List.mem_cons_self)
    have hl := rv.length
    have hi : i = its.toArray.size := by
      rw [← hx]
      simp [hl]
    subst hi
    exact wpAny_pyNext_enum_endD (Draws.tuple (A := X.A.in1) (I.ok.hd hc) it a hai its.toArray) he ⟨hit, p⟩ fun h' eb => ⟨rfl, I.turned (t' := s.toks) (fun b o hb q => eb b o hb q) f0 f1 f3 f4 f5⟩
  self := fun A i s Q E st h => by
    obtain ⟨⟨_, he⟩, _⟩ := st
    exact wpAny_pyIter_enum he h
def iEnumT (K : PySem.W.Frag) (ta : TA) : TI := fun σ H R => ta σ H fun vs H1 => ∃ a xs, vs = [.ref a] ∧ ((SqL K H1 a xs ∧ R (Ite K a) H1) ∨ (SqT K H1 a xs ∧ R (Iet K a) H1))
theorem pi_enumT {X : Cx} {e : Expr} {ta : TA} {p pos tpos : Pos} {elts : List Expr} {kk : Nat} (hg : Gl X "enumerate") (hm : X.mg "enumerate" = none) (ha : PA X [e] ta) (hs : starEach [e] X.env = [(false, eval e X.env)] := by rfl) :
    PI X (.Tuple elts kk tpos) (.Call (.Name "enumerate" p) [e] [] pos) (iEnumT X.K ta) := by
  refine ⟨fun pins s σ H R I h => Call_ (ld_blt I hg hm boot_enumerate (PyProof.Rows.callWith_type1 (thn (ha.run pos pins s σ H _ I h) fun us s1 q0 => ?_) hs rfl))⟩
  obtain ⟨vs, H1, I1, r1, a, xs, rfl, q⟩ := q0
  cases r1 with
  | cons r rr =>
    cases rr
    cases r
    rcases q with ⟨hq, q⟩ | ⟨hq, q⟩
    · obtain ⟨its, rv, p', hz⟩ := I1.list hq
      refine call_enumerate_list p'.isList fun h' he hit hsz hk => wpAny_pyIter_enum he ?_
      have I2 : Inv X pins σ H1 { s1 with heap := h' } := I1.kept (t' := s1.toks) hk
      refine ⟨s1.heap.objs.size + 1, [s1.heap.objs.size + 1, s1.heap.objs.size], _, _, H1, rfl, I2, turn_enum a _ _, ⟨⟨.none, he⟩, hit, Nat.succ_ne_self _⟩, fun b hb => ?_, q⟩
      have hle : s1.heap.objs.size ≤ b := by
        rcases List.mem_cons.mp hb with z | z
        · rw [z]
          exact Nat.le_succ _
        · rw [List.mem_singleton.mp z]
          exact Nat.le_refl _
      exact I1.fpOk hle (I1.hok.fresh hle)
    · obtain ⟨its, rv, p', hz⟩ := I1.tuple hq
      have hal : a < s1.heap.objs.size := by
        obtain ⟨_, z, _⟩ := p'
        exact Heap.lt_size z
      refine call_enumT p' fun h' he hit hsz hk => wpAny_pyIter_enum he ?_
      have I2 : Inv X pins σ H1 { s1 with heap := h' } := I1.kept (t' := s1.toks) hk
      refine ⟨s1.heap.objs.size + 1, [s1.heap.objs.size + 1, s1.heap.objs.size], _, _, H1, rfl, I2, turn_enumT a _ _, ⟨⟨.none, he⟩, hit, Nat.succ_ne_self _, Nat.ne_of_gt (Nat.lt_succ_of_lt hal), Nat.ne_of_lt hal⟩, fun b hb => ?_, q⟩
      have hle : s1.heap.objs.size ≤ b := by
        rcases List.mem_cons.mp hb with z | z
        · rw [z]
          exact Nat.le_succ _
        · rw [List.mem_singleton.mp z]
          exact Nat.le_refl _
      exact I1.fpOk hle (I1.hok.fresh hle)
end MPu
/-! MPk: ranges and enumerate, targets, comprehensions. -/
namespace MP
open PySem L2

section
variable {X : Cx} {W : WX} {e a b c o : Expr} {ma mb mc mo : EM} {ms : List EM} {es : List Expr} {pos p apos : Pos} {σ : L2.St} {H : Hp} {Q : VK} {ρ : Rho} {h : VH} {η : Env}
theorem i_r1 {tg : Expr} (hg : Gl X "range") (hm : X.mg "range" = none) (hs : ∀ x p, a ≠ .Starred x p) (ha : PA X [a] (qA X W (evL [ma]))) : PI X tg (.Call (.Name "range" p) [a] [] pos) (qI X W false (itR1 ma)) := by
  refine ⟨fun pins s σ H R I ⟨ρ, h, η, at_, q⟩ => (pi_range1 hg hm ha (nostar hs [] _)).run pins s σ H R I ?_⟩
  refine ⟨ρ, h, η, at_, ?_⟩
  have e1 : itR1 ma η h = bnd (evL [ma] η) (fun us => match us with
    | [.int j] => if -(2 ^ 62) ≤ j ∧ j < 2 ^ 62 then mret ⟨[], rngL 0 j.toNat⟩ else mbad
    | _ => mbad) h := by
    unfold itR1 evL evL bnd
    cases ma η h with
    | ok u h' => cases u <;> rfl
    | exc c fs h' => rfl
    | bad => rfl
  rw [e1] at q
  refine q.bind fun us ρ1 h1 H1 x r p1 vs rvs => ?_
  match us, rvs, p1 with
  | [], _, p1 => exact p1.elim
  | u :: _ :: _, _, p1 => cases u <;> exact p1.elim
  | [u], rvs, p1 =>
    obtain ⟨y, rfl, ry⟩ := rep1 rfl rvs
    cases u <;> try exact p1.elim
    rename_i j
    simp only at p1
    by_cases c : -(2 ^ 62) ≤ j ∧ j < 2 ^ 62
    · rw [if_pos c] at p1
      unfold RepV at ry
      exact ⟨j, by rw [ry], c.1, c.2, p1 ρ1 H1 .refl r _ rng_it⟩
    · rw [if_neg c] at p1
      exact p1.elim
theorem i_r2 {tg : Expr} (hg : Gl X "range") (hm : X.mg "range" = none) (hs : ∀ x p, a ≠ .Starred x p) (hs2 : ∀ x p, b ≠ .Starred x p) (ha : PA X [a, b] (qA X W (evL [ma, mb]))) : PI X tg (.Call (.Name "range" p) [a, b] [] pos) (qI X W false (itR2 ma mb)) := by
  refine ⟨fun pins s σ H R I ⟨ρ, h, η, at_, q⟩ => (pi_range2 hg hm ha (by rw [nostar hs, nostar hs2]; rfl) (nostar hs2 [] _)).run pins s σ H R I ?_⟩
  refine ⟨ρ, h, η, at_, ?_⟩
  have e1 : itR2 ma mb η h = bnd (evL [ma, mb] η) (fun us => match us with
    | [.int i, .int j] => if -(2 ^ 62) ≤ i ∧ i < 2 ^ 62 ∧ -(2 ^ 62) ≤ j ∧ j < 2 ^ 62 then mret ⟨[], rngL i (j - i).toNat⟩ else mbad
    | _ => mbad) h := by
    unfold itR2 evL evL evL bnd
    cases ma η h with
    | ok u h' =>
      simp only
      cases mb η h' with
      | ok v h2 => cases u <;> cases v <;> rfl
      | exc c fs h' => rfl
      | bad => rfl
    | exc c fs h' => rfl
    | bad => rfl
  rw [e1] at q
  refine q.bind fun us ρ1 h1 H1 x r p1 vs rvs => ?_
  match us, rvs, p1 with
  | [], _, p1 => exact p1.elim
  | [u], _, p1 => cases u <;> exact p1.elim
  | u :: v :: _ :: _, _, p1 => cases u <;> cases v <;> exact p1.elim
  | [u, v], rvs, p1 =>
    obtain ⟨y, z, rfl, ry, rz⟩ : ∃ y z, vs = [y, z] ∧ RepV X.K ρ1 H1 u y ∧ RepV X.K ρ1 H1 v z := by
      unfold RepVs RepVs RepVs at rvs
      obtain ⟨y, r1, e1, ry, z, r2, e2, rz, e3⟩ := rvs
      subst e3 e2 e1
      exact ⟨y, z, rfl, ry, rz⟩
    cases u <;> try exact p1.elim
    cases v <;> try exact p1.elim
    rename_i i j
    simp only at p1
    by_cases c : -(2 ^ 62) ≤ i ∧ i < 2 ^ 62 ∧ -(2 ^ 62) ≤ j ∧ j < 2 ^ 62
    · rw [if_pos c] at p1
      unfold RepV at ry rz
      exact ⟨i, j, by rw [ry, rz], c, p1 ρ1 H1 .refl r _ rng_it⟩
    · rw [if_neg c] at p1
      exact p1.elim
theorem enumT_it {us : List U} {vs : List V} {K : PySem.W.Frag} {mg : Str → Option Value} {q : Addr} (hN : SqN K H q vs) (r : RepVs K ρ H us vs) : ItOk K mg true (MPu.Iet K q) ⟨[], enumL 0 us⟩ ρ H where
  stop := fun ρ' h H' x _ _ => ⟨vs, (x.sqN hN).sqT, by rw [← r.len]; show us.length = (enumL 0 us).length; rw [enumL_len]⟩
  go := fun i ρ' h H' hi x _ _ => by
    have hi' : i < us.length := by
      have hi : i < (enumL 0 us).length := hi
      rw [enumL_len] at hi
      exact hi
    obtain ⟨v, h3, _⟩ := r.get (List.getElem?_eq_getElem hi')
    exact ⟨vs, v, (x.sqN hN).sqT, h3⟩
  yld := fun i u ρ' h H' y H'' hu x rep _ hy => by
    obtain ⟨T, x0, e1, e2, e3, hy⟩ := hy
    subst e3
    obtain ⟨z, z1, z2⟩ := enumL_get hu
    obtain ⟨v, h4, h5⟩ := r.get z1
    have h6 := hy vs (x.sqN hN).sqT
    rw [h6] at h4
    cases h4
    have h5' := h5.ext x
    have ex : Ext ρ' H' ρ' (upd H' T (.tup [.int (i : Nat), x0])) := .upd_new e2
    refine ⟨ex, rep.upd_new e2, ?_⟩
    show RepW K ρ' _ u y
    refine ⟨_, z2, T, _, e1, SqT.of upd_same, ?_⟩
    rw [Nat.zero_add]
    exact .cons rfl (.one (h5'.ext ex))
theorem i_en {elts : List Expr} {kk : Nat} {tpos : Pos} (hg : Gl X "enumerate") (hm : X.mg "enumerate" = none) (hs : ∀ x p, a ≠ .Starred x p) (ha : PA X [a] (qA X W (evL [ma]))) : PI X (.Tuple elts kk tpos) (.Call (.Name "enumerate" p) [a] [] pos) (qI X W true (itE ma)) := by
  refine ⟨fun pins s σ H R I ⟨ρ, h, η, at_, q⟩ => (MPu.pi_enumT hg hm ha (nostar hs [] _)).run pins s σ H R I ?_⟩
  refine ⟨ρ, h, η, at_, ?_⟩
  have e1 : itE ma η h = bnd (evL [ma] η) (fun us => match us with
    | [u] => fun h => match u with
      | .tup us => .ok ⟨[], enumL 0 us⟩ h
      | .ref n => match h[n]? with
        | some (.lst us) => .ok ⟨[(n, .lst us)], enumL 0 us⟩ h
        | some (.frz us) => .ok ⟨[], enumL 0 us⟩ h
        | _ => .bad
      | _ => .bad
    | _ => mbad) h := by
    unfold itE evL evL bnd
    cases ma η h with
    | ok u h' => cases u <;> rfl
    | exc c fs h' => rfl
    | bad => rfl
  rw [e1] at q
  refine q.bind fun us ρ1 h1 H1 x r p1 vs rvs => ?_
  match us, rvs, p1 with
  | [], _, p1 => exact p1.elim
  | _ :: _ :: _, _, p1 => exact p1.elim
  | [u], rvs, p1 =>
    obtain ⟨y, rfl, ry⟩ := rep1 rfl rvs
    cases u <;> try exact p1.elim
    · rename_i us
      unfold RepV at ry
      obtain ⟨q, vs, f1, hN, g2⟩ := ry
      exact ⟨q, vs, by rw [f1], .inr ⟨hN.sqT, p1 ρ1 H1 .refl r _ (enumT_it hN g2)⟩⟩
    rename_i n
    simp only at p1
    cases e2 : h1[n]? with
    | none => simp only [e2] at p1; exact p1.elim
    | some vo =>
      obtain ⟨q, r1, f1, ro⟩ := RepV.ref_at r ry e2
      cases vo with
      | lst us =>
        simp only [e2] at p1
        obtain ⟨vs, g1, g2⟩ := ro
        refine ⟨q, vs, by rw [f1], .inl ⟨SqL.of g1, p1 ρ1 H1 .refl r _ (enum_it fun ρ' h H' x rep w => ?_)⟩⟩
        obtain ⟨vs, g1, g2⟩ := rep.at_ n _ q (okW_one w) (x.at r1)
        exact ⟨vs, SqL.of g1, g2⟩
      | frz us =>
        simp only [e2] at p1
        obtain ⟨vs, g1, g2⟩ := id ro
        obtain ⟨vs', g3, _⟩ := ro.sqL (.inr rfl)
        refine ⟨q, vs', by rw [f1], .inl ⟨g3, p1 ρ1 H1 .refl r _ (enum_it fun ρ' h H' x rep w => ?_)⟩⟩
        exact ⟨vs, FrzAt.ext g1 x, g2.ext x⟩
      | _ => simp only [e2] at p1; exact p1.elim

/-! ### targets -/
def setAllS : List Nat → List V → L2.St → L2.St
  | i :: is, v :: vs, σ => setAllS is vs (σ.set i (some v))
  | _, _, σ => σ
theorem setAllS_len : ∀ (is : List Nat) (vs : List V) (σ : L2.St), (setAllS is vs σ).length = σ.length
  | [], _, _ => rfl
  | _ :: _, [], _ => rfl
  | i :: is, v :: vs, σ => by unfold setAllS; rw [setAllS_len is vs, List.length_set]
theorem setAllS_out {j : Nat} : ∀ (is : List Nat) (vs : List V) (σ : L2.St), j ∉ is → (setAllS is vs σ)[j]? = σ[j]?
  | [], _, _, _ => rfl
  | _ :: _, [], _, _ => rfl
  | i :: is, v :: vs, σ, hj => by
    unfold setAllS
    rw [setAllS_out is vs _ (fun z => hj (List.mem_cons_of_mem _ z)), List.getElem?_set_ne (fun z : i = j => hj (by rw [z]; exact List.mem_cons_self))]
theorem REnv.setAll {K : PySem.W.Frag} : ∀ {is : List Nat} {us : List U} {vs : List V} {η : Env} {σ : L2.St}, REnv K ρ H η σ → RepVs K ρ H us vs → REnv K ρ H (MP.setAll is us η) (setAllS is vs σ)
  | [], _, _, _, _, e, _ => e
  | i :: is, [], vs, η, σ, e, r => by
    unfold RepVs at r
    subst r
    exact e
  | i :: is, u :: us, vs, η, σ, e, r => by
    unfold RepVs at r
    obtain ⟨v, r2, rfl, r3, r4⟩ := r
    unfold MP.setAll setAllS
    exact REnv.setAll (e.set i r3) r4
def qG (X : Cx) (pr : Bool) (g : Tg) : TG := fun v σ H Q => ∃ ρ h η η' u, At X.K X.mg ρ h η σ H ∧ RepT pr X.K ρ H u v ∧ tgM g u η h = .ok η' h ∧ ∀ σ', REnv X.K ρ H η' σ' → σ'.length = σ.length → (∀ j, j ∉ g.slots → σ'[j]? = σ[j]?) → Q σ' H
/-- what targets need -/
structure GOk (N : List Str) (sc : Scope) (X : Cx) : Prop where
  hN : X.N = N
  nd : N.Nodup
  loc : ∀ x, locB sc x = true → Loc X.env.scope x ∧ (X.fn x = true ∨ X.env.scope.names.lookup x = some .local)
  calm : X.calm = true
theorem slotL_at {N : List Str} {sc : Scope} {x : Str} {i : Nat} (e : slotL N sc x = some i) : locB sc x = true ∧ N[i]? = some x := by
  unfold slotL at e
  by_cases c : locB sc x = true
  · rw [if_pos c] at e
    refine ⟨c, ?_⟩
    unfold slot at e
    by_cases c2 : (visB sc x && okN x) = true
    · rw [if_pos c2] at e
      obtain ⟨hi, h1, _⟩ := List.findIdx?_eq_some_iff_getElem.mp e
      rw [List.getElem?_eq_getElem hi]
      exact congrArg some (of_decide_eq_true h1)
    · rw [if_neg c2] at e
      cases e
  · rw [if_neg c] at e
    cases e
theorem g_name {N : List Str} {sc : Scope} {x : Str} {i : Nat} (G : GOk N sc X) (e : slotL N sc x = some i) : PG X (.Name x pos) (gName i) := by
  obtain ⟨c, hi⟩ := slotL_at e
  obtain ⟨l1, l2⟩ := G.loc x c
  exact pg_name (by rw [G.hN]; exact G.nd) (by rw [G.hN]; exact hi) l1 l2
theorem g_one {N : List Str} {sc : Scope} {x : Str} {i : Nat} (G : GOk N sc X) (e : slotL N sc x = some i) : PG X (.Name x pos) (qG X false (.one i)) := by
  refine ⟨fun pins s σ H v u Q I r ⟨ρ, h, η, η', w, at_, rt, e1, q⟩ => (g_name G e).run pins s σ H v u Q I r ?_⟩
  have e2 : η.set i (some w) = η' := by
    have := congrArg (fun r => match r with | Res.ok a _ => a | _ => []) e1
    exact this
  subst e2
  exact q _ (at_.env.set i rt) (by rw [List.length_set]) fun j hj => by
    rw [List.getElem?_set_ne (fun z => hj (by rw [← z]; exact List.mem_cons_self))]
def gAll (is : List Nat) : TGs := fun vs σ H Q => vs.length = is.length ∧ Q (setAllS is vs σ) H
theorem g_names {N : List Str} {sc : Scope} (G : GOk N sc X) : ∀ {ts : List Expr} {is : List Nat}, slotsOf N sc ts = some is → PGs X ts (gAll is) ∧ (assignEach ts X.env).length = is.length ∧ (assignEach ts X.env).findIdx? (·.1) = none
  | [], is, e => by
    cases e
    refine ⟨⟨fun pins s σ H vs us Q I r ⟨h1, h2⟩ => pgs_nil.run pins s σ H vs us Q I r ⟨List.length_eq_zero_iff.mp h1, ?_⟩⟩, rfl, rfl⟩
    have e1 := List.length_eq_zero_iff.mp h1
    subst e1
    exact h2
  | t :: ts, is, e => by
    cases t with
    | Name x p =>
      unfold slotsOf at e
      cases e1 : slotL N sc x with
      | none => rw [e1] at e; cases e
      | some i =>
        cases e2 : slotsOf N sc ts with
        | none => rw [e1, e2] at e; cases e
        | some js =>
          rw [e1, e2] at e
          cases e
          obtain ⟨h1, h2, h3⟩ := g_names G e2
          refine ⟨⟨fun pins s σ H vs us Q I r ⟨k1, k2⟩ => (pgs_cons (g_name (pos := p) G e1) h1 rfl).run pins s σ H vs us Q I r ?_⟩, ?_, ?_⟩
          · cases vs with
            | nil => cases k1
            | cons v vs => exact ⟨v, vs, rfl, by simpa using k1, k2⟩
          · show (assignEach ts X.env).length + 1 = js.length + 1
            rw [h2]
          · show (List.findIdx? _ ((false, _) :: assignEach ts X.env)) = none
            rw [List.findIdx?_cons]
            simp [h3]
    | _ => unfold slotsOf at e; cases e
theorem g_many {N : List Str} {sc : Scope} {ts : List Expr} {is : List Nat} {k : Nat} {pr : Bool} (G : GOk N sc X) (e : slotsOf N sc ts = some is) : PG X (.Tuple ts k pos) (qG X pr (.many is)) := by
  obtain ⟨h1, h2, h3⟩ := g_names G e
  refine ⟨fun pins s σ H v u Q I r ⟨ρ, h, η, η', w, at_, rt, e1, q⟩ => ?_⟩
  unfold tgM at e1
  cases e2 : seqOf h w with
  | none => simp only [e2] at e1; cases e1
  | some us =>
    simp only [e2] at e1
    by_cases c : us.length = is.length
    · rw [if_pos c] at e1
      have e3 : setAll is us η = η' := by
        have := congrArg (fun r => match r with | Res.ok a _ => a | _ => []) e1
        exact this
      subst e3
      have fin : ∀ vs, RepVs X.K ρ H us vs → gAll is vs σ H Q := fun vs rv =>
        ⟨by rw [← rv.len]; exact c, q _ (at_.env.setAll rv) (setAllS_len _ _ _) fun j hj => setAllS_out is vs σ hj⟩
      have key : (∃ a vs, v = .ref a ∧ SqT X.K H a vs ∧ RepVs X.K ρ H us vs) ∨ (∃ a vs, v = .ref a ∧ SqL X.K H a vs ∧ RepVs X.K ρ H us vs) := by
        cases pr with
        | true =>
          obtain ⟨zs, ez, a, vs, k1, k2, k3⟩ := rt
          subst ez
          have : zs = us := by
            have e2 : some zs = some us := e2
            exact Option.some.inj e2
          subst this
          exact .inl ⟨a, vs, k1, k2, k3⟩
        | false =>
          obtain ⟨a, vs, k1, k2, k3⟩ := seqOf_rep at_.heap rt e2
          rcases k2 with k2 | k2
          · exact .inr ⟨a, vs, k1, k2, k3⟩
          · exact .inl ⟨a, vs, k1, k2.sqT, k3⟩
      rcases key with ⟨a, vs, k1, k2, k3⟩ | ⟨a, vs, k1, k2, k3⟩
      · exact (pg_tup (pos := pos) (k := k) G.calm h1 h2 h3).run pins s σ H v u Q I r ⟨a, vs, k1, k2, by rw [← k3.len]; exact c, fin vs k3⟩
      · exact (pg_lst (pos := pos) (k := k) G.calm h1 h2 h3).run pins s σ H v u Q I r ⟨a, vs, k1, k2, by rw [← k3.len]; exact c, fin vs k3⟩
    · rw [if_neg c] at e1
      cases e1
/-- what the compiler's targets are -/
theorem g_tg {N : List Str} {sc : Scope} {tg : Expr} {g : Tg} {pr : Bool} (G : GOk N sc X) (e : tgOf N sc tg = some g) (hp : (!pr || g.isMany) = true) : PG X tg (qG X pr g) := by
  cases tg with
  | Name x p =>
    unfold tgOf at e
    simp only at e
    cases e1 : slotL N sc x with
    | none => rw [e1] at e; cases e
    | some i =>
      rw [e1] at e
      cases e
      cases pr with
      | true => simp [Tg.isMany] at hp
      | false => exact g_one G e1
  | Tuple ts k p =>
    unfold tgOf at e
    simp only at e
    cases e1 : slotsOf N sc ts with
    | none => rw [e1] at e; cases e
    | some is =>
      rw [e1] at e
      simp only at e
      by_cases c : (is.eraseDups.length == is.length) = true
      · rw [if_pos c] at e
        cases e
        exact g_many G e1
      · rw [if_neg c] at e
        cases e
  | _ => unfold tgOf at e; cases e
theorem tg_tup {N : List Str} {sc : Scope} {tg : Expr} {is : List Nat} (e : tgOf N sc tg = some (.many is)) : ∃ ts k p, tg = .Tuple ts k p := by
  cases tg with
  | Name x p =>
    unfold tgOf at e
    simp only at e
    cases e1 : slotL N sc x with
    | none => rw [e1] at e; cases e
    | some i => rw [e1] at e; cases e
  | Tuple ts k p => exact ⟨ts, k, p, rfl⟩
  | _ => unfold tgOf at e; cases e

/-! ### comprehensions -/
def W0 : WX := fun _ _ _ _ => False
theorem takes0 : Takes X W0 := fun u s' ⟨a, B, sI, pins, σ, H, cls, d, e, I, nb, up, sky, na, os, ag, w⟩ => w.elim
def wipeU (η : Env) : List Nat → Env
  | [] => η
  | v :: vs => (wipeU η vs).set v none
theorem tgM_same {g : Tg} {u : U} {η η' : Env} (e : tgM g u η h = .ok η' h) : (g = .one (g.slots.headD 0) ∧ η' = η.set (g.slots.headD 0) (some u)) ∨ ∃ is us, g = .many is ∧ seqOf h u = some us ∧ us.length = is.length ∧ η' = setAll is us η := by
  cases g with
  | one i =>
    refine .inl ⟨rfl, ?_⟩
    have := congrArg (fun r => match r with | Res.ok a _ => a | _ => []) e
    exact this.symm
  | many is =>
    refine .inr ?_
    unfold tgM at e
    cases e2 : seqOf h u with
    | none => simp only [e2] at e; cases e
    | some us =>
      simp only [e2] at e
      by_cases c : us.length = is.length
      · rw [if_pos c] at e
        refine ⟨is, us, rfl, rfl, c, ?_⟩
        have := congrArg (fun r => match r with | Res.ok a _ => a | _ => []) e
        exact this.symm
      · rw [if_neg c] at e
        cases e
theorem wipeU_len : ∀ (vs : List Nat) (η : Env), (wipeU η vs).length = η.length
  | [], _ => rfl
  | v :: vs, η => by unfold wipeU; rw [List.length_set, wipeU_len vs]
theorem wipeU_out {j : Nat} : ∀ (vs : List Nat) (η : Env), j ∉ vs → (wipeU η vs)[j]? = η[j]?
  | [], _, _ => rfl
  | v :: vs, η, hj => by
    unfold wipeU
    rw [List.getElem?_set_ne (fun z : v = j => hj (by rw [z]; exact List.mem_cons_self)), wipeU_out vs η (fun z => hj (List.mem_cons_of_mem _ z))]
theorem wipeU_some {j : Nat} {u : U} : ∀ (vs : List Nat) (η : Env), (wipeU η vs)[j]? = some (some u) → η[j]? = some (some u) ∧ j ∉ vs
  | [], _, e => ⟨e, by simp⟩
  | v :: vs, η, e => by
    unfold wipeU at e
    by_cases hv : v = j
    · subst hv
      rw [List.getElem?_set] at e
      rw [if_pos rfl] at e
      by_cases hl : v < (wipeU η vs).length
      · rw [if_pos hl] at e; cases e
      · rw [if_neg hl] at e; cases e
    · rw [List.getElem?_set_ne hv] at e
      obtain ⟨h1, h2⟩ := wipeU_some vs η e
      exact ⟨h1, fun z => by rcases List.mem_cons.mp z with z | z; exact hv z.symm; exact h2 z⟩
theorem REnv.wipe {K : PySem.W.Frag} (vs : List Nat) {η : Env} {σ : L2.St} (e : REnv K ρ H η σ) : REnv K ρ H (wipeU η vs) (L2.wipe σ vs) :=
  ⟨by rw [wipeU_len, L2.wipe_length]; exact e.1, fun j u q => by
    obtain ⟨h1, h2⟩ := wipeU_some vs η q
    obtain ⟨v, k1, k2⟩ := e.2 j u h1
    exact ⟨v, by rw [L2.wipe_out h2]; exact k1, k2⟩⟩
/-- two frames that differ at some slots only -/
def EqO (P : Nat → Prop) (η η' : Env) : Prop := η.length = η'.length ∧ ∀ j, ¬ P j → η[j]? = η'[j]?
theorem EqO.set {P : Nat → Prop} {η η' : Env} (e : EqO P η η') (i : Nat) (u : Option U) : EqO (fun j => P j ∧ j ≠ i) (η.set i u) (η'.set i u) := by
  refine ⟨by rw [List.length_set, List.length_set]; exact e.1, fun j hj => ?_⟩
  by_cases hi : i = j
  · subst hi
    rw [List.getElem?_set, List.getElem?_set, if_pos rfl, if_pos rfl, e.1]
  · rw [List.getElem?_set_ne hi, List.getElem?_set_ne hi]
    exact e.2 j fun z => hj ⟨z, fun q => hi q.symm⟩
theorem EqO.setAll : ∀ {is : List Nat} {us : List U} {P : Nat → Prop} {η η' : Env}, us.length = is.length → EqO P η η' → EqO (fun j => P j ∧ j ∉ is) (MP.setAll is us η) (MP.setAll is us η')
  | [], _, P, η, η', _, e => ⟨by unfold MP.setAll; exact e.1, fun j hj => by unfold MP.setAll; exact e.2 j fun z => hj ⟨z, by simp⟩⟩
  | i :: is, [], _, _, _, l, _ => by cases l
  | i :: is, u :: us, P, η, η', l, e => by
    unfold MP.setAll
    have q := EqO.setAll (is := is) (us := us) (by simpa using l) (e.set i (some u))
    exact ⟨q.1, fun j hj => q.2 j fun ⟨⟨a, b⟩, c⟩ => hj ⟨a, fun z => by rcases List.mem_cons.mp z with z | z; exact b z; exact c z⟩⟩
theorem EqO.eq {P : Nat → Prop} {η η' : Env} (e : EqO P η η') (h : ∀ j, ¬ P j) : η = η' := List.ext_getElem? fun j => e.2 j (h j)
/-- a target that stores all of the wiped slots does not see the wiping -/
theorem tgM_wipe {g : Tg} {u : U} {η η' : Env} {vs : List Nat} (hs : ∀ v ∈ vs, v ∈ g.slots) (e : tgM g u η h = .ok η' h) : tgM g u (wipeU η vs) h = .ok η' h := by
  have e0 : EqO (fun j => j ∈ vs) (wipeU η vs) η := ⟨wipeU_len _ _, fun j hj => wipeU_out vs η hj⟩
  rcases tgM_same e with ⟨h1, h2⟩ | ⟨is, us, h1, h2, h3, h4⟩
  · generalize hi : g.slots.headD 0 = i at h1 h2
    subst h1
    have q := (e0.set i (some u)).eq fun j ⟨a, b⟩ => b (List.mem_singleton.mp (hs j a))
    show Res.ok ((wipeU η vs).set i (some u)) h = _
    rw [q, h2]
  · subst h1
    have q := (e0.setAll (us := us) h3).eq fun j ⟨a, b⟩ => b (hs j a)
    unfold tgM
    simp only [h2]
    rw [if_pos h3, q, h4]
/-- a test of the block -/
theorem noX_ok {α : Type} {m : M α} {a : α} {h' : VH} (e : noX m h = .ok a h') : m h = .ok a h' := by
  unfold noX at e
  cases e1 : m h with
  | ok b h2 => rw [e1] at e; exact e
  | exc c fs h2 => rw [e1] at e; cases e
  | bad => rw [e1] at e; cases e
theorem wipe_eq {σ σ' : L2.St} {vs : List Nat} (hl : σ'.length = (L2.wipe σ vs).length) (hj : ∀ j, j ∉ vs → σ'[j]? = (L2.wipe σ vs)[j]?) : L2.wipe σ' vs = L2.wipe σ vs := by
  have none_at : ∀ {τ : L2.St} {j : Nat}, j ∈ vs → j < τ.length → (L2.wipe τ vs)[j]? = some none := fun {τ j} hm hlt => by
    cases e : (L2.wipe τ vs)[j]? with
    | none =>
      have := List.getElem?_eq_none_iff.mp e
      rw [L2.wipe_length] at this
      omega
    | some o =>
      cases o with
      | none => rfl
      | some v => exact absurd hm (L2.wipe_some e).2
  refine List.ext_getElem? fun j => ?_
  by_cases hm : j ∈ vs
  · by_cases hlt : j < σ'.length
    · rw [none_at hm hlt, none_at hm (by rw [hl, L2.wipe_length] at hlt; exact hlt)]
    · rw [List.getElem?_eq_none (by rw [L2.wipe_length]; omega), List.getElem?_eq_none (by rw [← hl]; omega)]
  · rw [L2.wipe_out hm, hj j hm]
theorem i_lc {itm : Env → M Itr} {g : Tg} {mt : TM} {me : EM} {pr : Bool} {vs : List Nat} (h1 : ∀ v ∈ vs, v ∈ g.slots) (h2 : ∀ v ∈ g.slots, v ∈ vs) {wi : TI} (hwi : ∀ σ H R, qI X W pr itm σ H R → wi σ H R) (σ : L2.St) (H : Hp) (Q : VK) (q : qE X W (xLc itm g mt me) σ H Q) :
    tLc wi (qG X pr g) (qT X W0 mt) (qE X W0 me) vs σ H Q := by
  obtain ⟨ρ, h, η, at_, q⟩ := q
  refine hwi σ H _ ⟨ρ, h, η, at_, q.bind fun I ρ1 h1' H1 x r p1 J ok D hD => ?_⟩
  have at1 := at_.ext x r
  by_cases hsz : I.us.length ≤ sizeLine
  · rw [if_pos hsz] at p1
    generalize hWW : (fun (i m : Nat) (H' : Hp) => m = I.us.length - i ∧ i ≤ I.us.length ∧ ∃ ρ' h' accU zs, RepH X.K X.mg ρ' h' H' ∧ Ext ρ1 H1 ρ' H' ∧ Nin D ρ' ∧ H' D = some (.lst zs) ∧ RepVs X.K ρ' H' accU zs ∧ accU.length ≤ i ∧
      Post X.K X.mg (fun c d H' => W c d σ H') (RV X.K Q) ρ1 H1 (bnd (compL I.w (tgM g) mt me (I.us.drop i) η) (fun us => newL (accU ++ us)) h')) = WW
    refine ⟨WW, ⟨I.us.length, by rw [← hWW]; exact ⟨by simp, Nat.zero_le _, ρ1, h1', [], [], at1.heap.upd_new hD, .upd_new hD, at1.heap.nin hD, upd_same, rfl, Nat.le_refl _, by
      have : (fun us => newL ([] ++ us)) = newL := by funext us; rfl
      rw [List.drop_zero, this]
      exact p1⟩⟩, ?_⟩
    · intro i m H' hw
      rw [← hWW] at hw
      obtain ⟨rfl, hi, ρ', h', accU, zs, rep, ex, nD, hz, ra, hl, pp⟩ := hw
      have w : okW I.w h' = true := by
        unfold bnd at pp
        by_cases c : okW I.w h' = true
        · exact c
        · exfalso
          cases e : I.us.drop i with
          | nil => rw [e] at pp; unfold compL at pp; rw [if_neg c] at pp; exact pp
          | cons u us => rw [e] at pp; unfold compL at pp; rw [if_neg c] at pp; exact pp
      by_cases hlt : i < I.us.length
      · have hu : I.us[i]? = some I.us[i] := List.getElem?_eq_getElem hlt
        generalize I.us[i] = u at hu
        have hdr : I.us.drop i = u :: I.us.drop (i + 1) := by
          rw [List.drop_eq_getElem_cons hlt]
          rw [List.getElem?_eq_getElem hlt] at hu
          rw [Option.some.inj hu]
        refine .inr ⟨ok.go i ρ' h' H' hlt ex rep w, fun H' => ∃ m', m' < I.us.length - i ∧ WW (i + 1) m' H', fun H2 hn => hn, fun v H2 y => ?_⟩
        · obtain ⟨ex2, rep2, rt⟩ := ok.yld i u ρ' h' H' v H2 hu ex rep w y
          have ex3 := ex.trans ex2
          have hz2 := ex2.keep D _ nD hz
          rw [hdr] at pp
          unfold compL at pp
          have pp : Post X.K X.mg (fun c d H' => W c d σ H') (RV X.K Q) ρ1 H1 (bnd (bnd (compT1 (tgM g) mt me u η) (fun o => bnd (compL I.w (tgM g) mt me (I.us.drop (i + 1)) η) fun vs => mret (o.toList ++ vs))) (fun us => newL (accU ++ us)) h') := by
            unfold bnd at pp ⊢
            simp only [if_pos w] at pp
            exact pp
          cases e1 : compT1 (tgM g) mt me u η h' with
          | bad => unfold bnd at pp; simp only [e1] at pp; exact pp.elim
          | exc c fs h3 =>
            exfalso
            unfold compT1 noX at e1
            split at e1 <;> cases e1
          | ok o h3 =>
            have pp : Post X.K X.mg (fun c d H' => W c d σ H') (RV X.K Q) ρ1 H1 (bnd (compL I.w (tgM g) mt me (I.us.drop (i + 1)) η) (fun us => newL (accU ++ (o.toList ++ us))) h3) := by
              have : bnd (compL I.w (tgM g) mt me (I.us.drop (i + 1)) η) (fun us => newL (accU ++ (o.toList ++ us))) h3 = bnd (bnd (compT1 (tgM g) mt me u η) (fun o => bnd (compL I.w (tgM g) mt me (I.us.drop (i + 1)) η) fun vs => mret (o.toList ++ vs))) (fun us => newL (accU ++ us)) h' := by
                unfold bnd
                simp only [e1]
                cases compL I.w (tgM g) mt me (I.us.drop (i + 1)) η h3 <;> rfl
              rw [this]
              exact pp
            have e1 := noX_ok e1
            unfold bnd at e1
            cases e2 : tgM g u η h' with
            | bad => simp only [e2] at e1; cases e1
            | exc c fs h4 => simp only [e2] at e1; cases e1
            | ok η' h4 =>
              have hh : h4 = h' := by
                cases g with
                | one i => unfold tgM mret at e2; cases e2; rfl
                | many is =>
                  unfold tgM at e2
                  cases e5 : seqOf h' u with
                  | none => simp only [e5] at e2; cases e2
                  | some us =>
                    simp only [e5] at e2
                    by_cases c : us.length = is.length
                    · rw [if_pos c] at e2; cases e2; rfl
                    · rw [if_neg c] at e2; cases e2
              subst hh
              simp only [e2] at e1
              refine ⟨ρ', h4, wipeU η vs, η', u, ⟨rep2, (at1.env.ext ex3).wipe vs⟩, rt, tgM_wipe h1 e2, fun σ2 rσ hl2 hj => ?_⟩
              refine ⟨wipe_eq hl2 fun j hj2 => hj j fun z => hj2 (h2 j z), ρ', h4, η', ⟨rep2, rσ⟩, ?_⟩
              cases e3 : mt η' h4 with
              | bad => simp only [e3] at e1; cases e1
              | exc c fs h5 => simp only [e3] at e1; cases e1
              | ok c h5 =>
                simp only [e3] at e1
                intro ρ3 H3 x3 rep3
                have nD3 := nD.ext x3 hz2
                have hz3 := x3.keep D _ nD hz2
                have ex4 := ex3.trans x3
                have ra3 := (ra.ext ex2).ext x3
                cases c with
                | false =>
                  simp only [Bool.false_eq_true, if_false] at e1 ⊢
                  cases e1
                  exact ⟨I.us.length - (i + 1), by omega, by rw [← hWW]; exact ⟨rfl, by omega, ρ3, h3, accU, zs, rep3, ex4, nD3, hz3, ra3, by omega, pp⟩⟩
                | true =>
                  simp only [if_true] at e1 ⊢
                  refine ⟨ρ3, h5, η', ⟨rep3, rσ.ext x3⟩, ?_⟩
                  cases e4 : me η' h5 with
                  | bad => simp only [e4] at e1; cases e1
                  | exc c fs h5 => simp only [e4] at e1; cases e1
                  | ok v2 h6 =>
                    simp only [e4] at e1
                    cases e1
                    intro ρ4 H4 x4 rep4 y4 ry4
                    have hz4 := x4.keep D _ nD3 hz3
                    have nD4 := nD3.ext x4 hz3
                    have ra4 := ra3.ext x4
                    have nz : ∀ z w, HO.lst zs ≠ .frz z w := fun _ _ z => nomatch z
                    have hle : zs.length ≤ i := by rw [← ra.len]; exact hl
                    refine ⟨zs, hz4, by omega, I.us.length - (i + 1), by omega, ?_⟩
                    rw [← hWW]
                    refine ⟨rfl, by omega, ρ4, h3, accU ++ [v2], zs ++ [y4], rep4.own nD4 hz4 nz, (ex4.trans x4).own hD hz4 nz, nD4, upd_same, ?_, by rw [List.length_append]; simp; omega, ?_⟩
                    · exact (ra4.extw (.own hz4 nz)).append (.one (ry4.extw (.own hz4 nz)))
                    · have : (fun us => newL (accU ++ [v2] ++ us)) = fun us => newL (accU ++ ((some v2).toList ++ us)) := by
                        funext us
                        rw [List.append_assoc]
                        rfl
                      rw [this]
                      exact pp
      · have ei : i = I.us.length := by omega
        subst ei
        refine .inl ⟨ok.stop ρ' h' H' ex rep w, ?_⟩
        rw [List.drop_length] at pp
        unfold bnd compL at pp
        rw [if_pos w] at pp
        simp only [List.append_nil] at pp
        refine pp (ρ' ++ [D]) H' (ex.join hD) (rep.join nD ⟨zs, hz, ra.extw ⟨⟨[D], rfl⟩, fun _ _ _ e => e⟩⟩) _ ?_
        unfold RepV
        exact ⟨D, by rw [← rep.len]; simp, rfl⟩
  · rw [if_neg hsz] at p1
    exact p1.elim
end
end MP
/-! MPw: == by a class's own __eq__. -/
namespace MP
open PySem L2 PyProof.Rows
open PySem.W (Looks)

section
variable {X : Cx} {σ : L2.St} {H : Hp}
theorem lk_ty {M : Model} {s : Shared} {a : Addr} {T : String} (t : s.TypeIs (.ref a) T) : Looks M s.heap (typeOf (.ref a)) (.type T) := by
  obtain ⟨o, h1, h2⟩ := t
  rw [← h2]
  exact (Looks.ld h1).andThen .now
theorem nf_ty {K : PySem.W.Frag} {C : Addr} {T : String} {l : List Value} (h : fastBuiltinMro T = some l) (hc : l.contains (.ref C) = false) : PySem.W.notFirst K C (.type T) = true := by
  have : PySem.W.subIn K (.type T) (.ref C) = some false := by
    show (fastBuiltinMro T).map (·.contains (.ref C)) = some false
    rw [h]; exact congrArg some hc
  unfold PySem.W.notFirst
  rw [this]
  simp
theorem own_run {G : Str → Str → List U → M U} {c : Str} {k : Nat} {f C a dx : Addr} {fd : FuncData} {ps : List Str} {fs : List (Str × V)} {tb : Value} {pins : List (Addr × Obj)} {s : Shared} {ρ : Rho} {h : VH} {u w : U} {y : V} {yv : Value} {E : XK} {Q : VK}
    (hu : X.A.units + 65 < cLine) (F : FnOk X.prog X.w X.K X.mg X.base (L2.CX X.prog X.w) k f fd ps (spU X.K X.mg 2 (G c "__eq__"))) (hr : Room k X.A) (me : Meth X.K C "__eq__" f) (hb : Binds X.K fd ps [])
    (I : Inv X pins σ H s) (rep : RepH X.K X.mg ρ h H) (ha : H a = some (.ins C dx fs)) (ru : RepV X.K ρ H u (.ref a)) (rw : RepV X.K ρ H w y) (ry : RelV y yv) (ht : Looks (model X.prog X.w) s.heap (typeOf yv) tb) (hn : PySem.W.notFirst X.K C tb = true)
    (p : Post X.K X.mg E (RV X.K Q) ρ H (noX (G c "__eq__" [u, w]) h)) : wpAny (model X.prog X.w) X.A (richCompare .Eq (.ref a) yv) (EP X pins σ Q) X.xe s := by
  obtain ⟨mA, J, _⟩ := ins_get I.hok ha
  obtain ⟨od, J, _⟩ := J.look
  obtain ⟨m, hF⟩ := I.fr
  refine PySem.W.cmp_K (op := .Eq) (tb := tb) (by omega) hF I.ok.mod.kin J ht hn me.at_ me.fn ?_
  refine wpAny_mono (run_fnW (CX := X) (W := W0) (dvs := []) (ds := []) (us := [.ref a, yv]) (vs := [.ref a, y]) F hr hb .nil takes0 I (.cons rfl (.cons ry .nil)) (Q := Q) ⟨ρ, h, [u, w], rep, ?_, rfl, ?_⟩) (fun r s' q => ?_) fun _ _ x => x
  · exact RepVs.cons ru (RepVs.cons rw rfl)
  · unfold noX at p
    cases e : G c "__eq__" [u, w] h with
    | ok b h' => rw [e] at p; exact p
    | exc c fs h' => rw [e] at p; exact p.elim
    | bad => rw [e] at p; exact p.elim
  · cases r with
    | notImplemented =>
      obtain ⟨v, H', I', rv, _⟩ := q
      cases v <;> first | (cases rv; done) | (obtain ⟨_, z⟩ := rv; cases z; done)
    | _ => exact q
theorem o_own {G : Str → Str → List U → M U} {cs : List Str} (hu : X.A.units + 65 < cLine)
    (hc : ∀ c ∈ cs, ∃ (k : Nat) (f C : Addr) (fd : FuncData) (ps : List Str), FnOk X.prog X.w X.K X.mg X.base (L2.CX X.prog X.w) k f fd ps (spU X.K X.mg 2 (G c "__eq__")) ∧ Room k X.A ∧ X.mg c = some (.ref C) ∧ Meth X.K C "__eq__" f ∧ Binds X.K fd ps []) :
    OpR X (compareOp .Eq) (rO X.K X.mg (eqM G cs)) := by
  rintro pins s σ H x y v u Q I rx ry ⟨E, ρ, h, a, b, rep, ra, rb, p⟩
  have old : Post X.K X.mg E (RV X.K Q) ρ H (eqO a b h) → wpAny (model X.prog X.w) X.A (compareOp .Eq v u) (EP X pins σ Q) X.xe s := fun p =>
    o_eq (by omega) pins s σ H x y v u Q I rx ry ⟨E, ρ, h, a, b, rep, ra, rb, p⟩
  unfold eqM at p
  cases a with
  | ref n =>
    simp only at p
    cases e1 : h[n]? with
    | none => rw [e1] at p; exact old p
    | some vo =>
      cases vo with
      | ins c fs =>
        rw [e1] at p
        simp only at p
        by_cases hcc : c ∈ cs
        · rw [if_pos hcc] at p
          obtain ⟨q, r1, f1, ro⟩ := RepV.ref_at rep ra e1
          subst f1
          obtain ⟨C, dx, fv, k1, k2, k3⟩ := ro
          obtain ⟨k, f, C', fd, ps, F, hr, hC, me, hb⟩ := hc c hcc
          rw [k1] at hC
          cases hC
          obtain rfl : v = Value.ref q := rx
          show wpAny (model X.prog X.w) X.A (richCompare .Eq (.ref q) u) (EP X pins σ Q) X.xe s
          cases b with
          | tup us =>
            have rb' := rb
            unfold RepV at rb'
            obtain ⟨a1, vs, rfl, hN, _⟩ := rb'
            obtain rfl : u = Value.ref a1 := ry
            exact own_run hu F hr me hb I rep k2 ra rb rfl (lk_ty (sqN_ty I hN).1) (nf_ty (T := "tuple") rfl rfl) p
          | ref j =>
            simp only at p
            cases e2 : h[j]? with
            | none => rw [e2] at p; exact p.elim
            | some wo =>
              obtain ⟨q2, r2, f2, ro2⟩ := RepV.ref_at rep rb e2
              subst f2
              obtain rfl : u = Value.ref q2 := ry
              cases wo with
              | ins d gs =>
                rw [e2] at p
                simp only at p
                by_cases hd : d = c
                · rw [if_pos hd] at p
                  subst hd
                  obtain ⟨C2, dx2, fv2, g1, g2, g3⟩ := ro2
                  rw [g1] at k1
                  cases k1
                  obtain ⟨mA2, J2, _⟩ := ins_get I.hok g2
                  obtain ⟨od2, J2, _⟩ := J2.look
                  exact own_run hu F hr me hb I rep k2 ra rb rfl J2.type (by simp [PySem.W.notFirst]) p
                · rw [if_neg hd] at p
                  exact p.elim
              | lst xs =>
                rw [e2] at p
                obtain ⟨vs, g1, _⟩ := ro2
                obtain ⟨hT, _⟩ := tyV_is (T := "list") I (x := V.ref q2) rfl (.inl ⟨rfl, vs, SqL.of g1⟩)
                exact own_run hu F hr me hb I rep k2 ra rb rfl (lk_ty hT) (nf_ty (T := "list") rfl rfl) p
              | _ => rw [e2] at p; exact p.elim
          | _ => exact p.elim
        · rw [if_neg hcc] at p
          exact p.elim
      | _ => rw [e1] at p; exact old p
  | _ => exact old p
end
end MP
/-! MPx: dict comprehensions. -/
namespace MP
open PySem L2 PyProof.Rows

section
variable {K : PySem.W.Frag} {ρ : Rho} {H : Hp}
theorem key_of {k : U} {y : V} (ks : isKS k = true) (r : RepV K ρ H k y) : ∃ key, y = kV key := by
  cases k with
  | int i => unfold RepV at r; exact ⟨.inl i, r⟩
  | str x => unfold RepV at r; exact ⟨.inr x, r⟩
  | _ => cases ks
def kU : Key → U
  | .inl i => .int i
  | .inr x => .str x
theorem key_is {c : U} {k : Key} (r : RepV K ρ H c (kV k)) : c = kU k := by
  cases c with
  | tup us => unfold RepV at r; obtain ⟨_, _, z, _⟩ := r; cases k <;> cases z
  | ref n => unfold RepV at r; obtain ⟨_, _, z⟩ := r; cases k <;> cases z
  | _ => unfold RepV at r; cases k <;> first | (cases r; done) | (cases r; rfl)
theorem key_inj {a b : U} {k : Key} (r1 : RepV K ρ H a (kV k)) (r2 : RepV K ρ H b (kV k)) : a = b := (key_is r1).trans (key_is r2).symm
theorem key_inj2 {a : U} {k k' : Key} (r1 : RepV K ρ H a (kV k)) (r2 : RepV K ρ H a (kV k')) : k = k' := by
  cases a with
  | tup us => unfold RepV at r1; obtain ⟨_, _, z, _⟩ := r1; cases k <;> cases z
  | ref n => unfold RepV at r1; obtain ⟨_, _, z⟩ := r1; cases k <;> cases z
  | _ =>
    unfold RepV at r1 r2
    have z := r1.trans r2.symm
    cases k <;> cases k' <;> first | (cases z; done) | (cases z; rfl)
theorem RepKs.len : ∀ {kvs : List (U × U)} {hk : List (Key × V)}, RepKs K ρ H kvs hk → kvs.length = hk.length
  | [], hk, r => by unfold RepKs at r; subst r; rfl
  | p :: q, hk, r => by
    unfold RepKs at r
    obtain ⟨k, v, r2, rfl, _, _, g⟩ := r
    rw [List.length_cons, List.length_cons, g.len]
theorem RepKs.mem {k : U} {key : Key} (rk : RepV K ρ H k (kV key)) : ∀ {kvs : List (U × U)} {hk : List (Key × V)}, RepKs K ρ H kvs hk → ((hk.any fun kv => decide (kv.1 = key)) = true ↔ k ∈ kvs.map (·.1))
  | [], hk, r => by unfold RepKs at r; subst r; simp
  | p :: q, hk, r => by
    unfold RepKs at r
    obtain ⟨k', v, r2, rfl, g1, _, g⟩ := r
    rw [List.any_cons, List.map_cons, List.mem_cons, Bool.or_eq_true, g.mem rk]
    have : decide (k' = key) = true ↔ k = p.1 := by
      rw [decide_eq_true_iff]
      exact ⟨fun z => by subst z; exact key_inj rk g1, fun z => by subst z; exact key_inj2 g1 rk⟩
    show decide (k' = key) = true ∨ _ ↔ _
    rw [this]
theorem RepKs.same {k : U} {key : Key} {z : V} (rk : RepV K ρ H k (kV key)) {kvs : List (U × U)} {hk : List (Key × V)} (g : RepKs K ρ H kvs hk) (hn : k ∉ kvs.map (·.1)) : (hk.map fun kv => if kv.1 = key then (kv.1, z) else kv) = hk := by
  have : ¬ (hk.any fun kv => decide (kv.1 = key)) = true := fun e => hn ((g.mem rk).mp e)
  refine (List.map_congr_left fun kv hkv => ?_).trans (List.map_id _)
  rw [if_neg fun e => this (List.any_eq_true.mpr ⟨kv, hkv, by simpa using e⟩)]
  rfl
theorem RepKs.put {k v : U} {key : Key} {z : V} (rk : RepV K ρ H k (kV key)) (rv : RepV K ρ H v z) : ∀ {kvs : List (U × U)} {hk : List (Key × V)}, RepKs K ρ H kvs hk → (kvs.map (·.1)).Nodup → RepKs K ρ H (dput k v kvs) (putK hk key z)
  | [], hk, r, _ => by
    unfold RepKs at r
    subst r
    show RepKs K ρ H [(k, v)] [(key, z)]
    unfold RepKs
    exact ⟨key, z, [], rfl, rk, rv, rfl⟩
  | p :: q, hk, r, nd => by
    unfold RepKs at r
    obtain ⟨k', v', r2, rfl, g1, g2, g⟩ := r
    rw [List.map_cons, List.nodup_cons] at nd
    unfold dput
    by_cases c : p.1 = k
    · rw [if_pos c]
      have ek : k' = key := key_inj2 g1 (c ▸ rk)
      have hp : putK ((k', v') :: r2) key z = (k', z) :: r2 := by
        unfold putK
        rw [if_pos (by rw [List.any_cons, decide_eq_true ek]; rfl), List.map_cons, if_pos ek, g.same rk (c ▸ nd.1)]
      rw [hp]
      unfold RepKs
      exact ⟨k', z, r2, rfl, g1, rv, g⟩
    · rw [if_neg c]
      have ek : ¬ k' = key := fun e => c (by subst e; exact key_inj g1 rk)
      have hp : putK ((k', v') :: r2) key z = (k', v') :: putK r2 key z := by
        unfold putK
        rw [List.any_cons, decide_eq_false ek, Bool.false_or]
        split
        · rw [List.map_cons, if_neg ek]
        · rfl
      rw [hp]
      unfold RepKs
      exact ⟨k', v', _, rfl, g1, g2, RepKs.put rk rv g nd.2⟩
end
theorem dput_keys {k v : U} : ∀ {kvs : List (U × U)} {x : U}, x ∈ (dput k v kvs).map (·.1) → x = k ∨ x ∈ kvs.map (·.1)
  | [], x, h => .inl (by simpa [dput] using h)
  | p :: q, x, h => by
    unfold dput at h
    by_cases c : p.1 = k
    · rw [if_pos c] at h
      exact .inr h
    · rw [if_neg c, List.map_cons, List.mem_cons] at h
      rcases h with h | h
      · exact .inr (by rw [List.map_cons, h]; exact List.mem_cons_self)
      · rcases dput_keys h with h | h
        · exact .inl h
        · exact .inr (by rw [List.map_cons]; exact List.mem_cons_of_mem _ h)
theorem dput_nodup {k v : U} : ∀ {kvs : List (U × U)}, (kvs.map (·.1)).Nodup → ((dput k v kvs).map (·.1)).Nodup
  | [], _ => by simp [dput]
  | p :: q, h => by
    unfold dput
    by_cases c : p.1 = k
    · rw [if_pos c]; exact h
    · rw [if_neg c]
      rw [List.map_cons, List.nodup_cons] at h ⊢
      refine ⟨fun z => ?_, dput_nodup h.2⟩
      rcases dput_keys z with z | z
      · exact c z
      · exact h.1 z
theorem dput_len {k v : U} : ∀ {kvs : List (U × U)}, (dput k v kvs).length ≤ kvs.length + 1
  | [] => by simp [dput]
  | p :: q => by
    unfold dput
    by_cases c : p.1 = k
    · rw [if_pos c]; simp
    · rw [if_neg c, List.length_cons, List.length_cons]
      have := dput_len (k := k) (v := v) (kvs := q)
      omega
section
variable {X : Cx} {W : WX} {ρ : Rho} {h : VH} {H : Hp}
theorem i_dc {itm : Env → M Itr} {g : Tg} {mt : TM} {mk me : EM} {pr : Bool} {vs : List Nat} (h1 : ∀ v ∈ vs, v ∈ g.slots) (h2 : ∀ v ∈ g.slots, v ∈ vs) {wi : TI} (hwi : ∀ σ H R, qI X W pr itm σ H R → wi σ H R) (σ : L2.St) (H : Hp) (Q : VK) (q : qE X W (xDc itm g mt mk me) σ H Q) :
    tDc wi (qG X pr g) (qT X W0 mt) (qE X W0 mk) (qE X W0 me) vs σ H Q := by
  obtain ⟨ρ, h, η, at_, q⟩ := q
  refine hwi σ H _ ⟨ρ, h, η, at_, q.bind fun I ρ1 h1' H1 x r p1 J ok D hD => ?_⟩
  have at1 := at_.ext x r
  by_cases hsz : I.us.length ≤ sizeLine
  · rw [if_pos hsz] at p1
    generalize hWW : (fun (i m : Nat) (H' : Hp) => m = I.us.length - i ∧ i ≤ I.us.length ∧ ∃ ρ' h' accU zs, RepH X.K X.mg ρ' h' H' ∧ Ext ρ1 H1 ρ' H' ∧ Nin D ρ' ∧ H' D = some (.dK zs) ∧ RepKs X.K ρ' H' accU zs ∧ (accU.map (·.1)).Nodup ∧ accU.length ≤ i ∧
      Post X.K X.mg (fun c d H' => W c d σ H') (RV X.K Q) ρ1 H1 (bnd (compD I.w (tgM g) mt mk me (I.us.drop i) η accU) newD h')) = WW
    refine ⟨WW, ⟨I.us.length, by rw [← hWW]; exact ⟨by simp, Nat.zero_le _, ρ1, h1', [], [], at1.heap.upd_new hD, .upd_new hD, at1.heap.nin hD, upd_same, rfl, .nil, Nat.le_refl _, by
      rw [List.drop_zero]
      exact p1⟩⟩, ?_⟩
    · intro i m H' hw
      rw [← hWW] at hw
      obtain ⟨rfl, hi, ρ', h', accU, zs, rep, ex, nD, hz, ra, nd, hl, pp⟩ := hw
      have w : okW I.w h' = true := by
        unfold bnd at pp
        by_cases c : okW I.w h' = true
        · exact c
        · exfalso
          cases e : I.us.drop i with
          | nil => rw [e] at pp; unfold compD at pp; rw [if_neg c] at pp; exact pp
          | cons u us => rw [e] at pp; unfold compD at pp; rw [if_neg c] at pp; exact pp
      by_cases hlt : i < I.us.length
      · have hu : I.us[i]? = some I.us[i] := List.getElem?_eq_getElem hlt
        generalize I.us[i] = u at hu
        have hdr : I.us.drop i = u :: I.us.drop (i + 1) := by
          rw [List.drop_eq_getElem_cons hlt]
          rw [List.getElem?_eq_getElem hlt] at hu
          rw [Option.some.inj hu]
        refine .inr ⟨ok.go i ρ' h' H' hlt ex rep w, fun H' => ∃ m', m' < I.us.length - i ∧ WW (i + 1) m' H', fun H2 hn => hn, fun v H2 y => ?_⟩
        · obtain ⟨ex2, rep2, rt⟩ := ok.yld i u ρ' h' H' v H2 hu ex rep w y
          have ex3 := ex.trans ex2
          have hz2 := ex2.keep D _ nD hz
          rw [hdr] at pp
          unfold compD at pp
          have pp : Post X.K X.mg (fun c d H' => W c d σ H') (RV X.K Q) ρ1 H1 (bnd (bnd (compT2 (tgM g) mt mk me u η) (fun o => match o with
            | some p => if isKS p.1 = true then compD I.w (tgM g) mt mk me (I.us.drop (i + 1)) η (dput p.1 p.2 accU) else mbad
            | none => compD I.w (tgM g) mt mk me (I.us.drop (i + 1)) η accU)) newD h') := by
            unfold bnd at pp ⊢
            simp only [if_pos w] at pp
            exact pp
          cases e1 : compT2 (tgM g) mt mk me u η h' with
          | bad => unfold bnd at pp; simp only [e1] at pp; exact pp.elim
          | exc c fs h3 =>
            exfalso
            unfold compT2 noX at e1
            split at e1 <;> cases e1
          | ok o h3 =>
            have pp : Post X.K X.mg (fun c d H' => W c d σ H') (RV X.K Q) ρ1 H1 (bnd (match o with
              | some p => if isKS p.1 = true then compD I.w (tgM g) mt mk me (I.us.drop (i + 1)) η (dput p.1 p.2 accU) else mbad
              | none => compD I.w (tgM g) mt mk me (I.us.drop (i + 1)) η accU) newD h3) := by
              unfold bnd at pp ⊢
              simp only [e1] at pp
              exact pp
            have e1 := noX_ok e1
            unfold bnd at e1
            cases e2 : tgM g u η h' with
            | bad => simp only [e2] at e1; cases e1
            | exc c fs h4 => simp only [e2] at e1; cases e1
            | ok η' h4 =>
              have hh : h4 = h' := by
                cases g with
                | one i => unfold tgM mret at e2; cases e2; rfl
                | many is =>
                  unfold tgM at e2
                  cases e5 : seqOf h' u with
                  | none => simp only [e5] at e2; cases e2
                  | some us =>
                    simp only [e5] at e2
                    by_cases c : us.length = is.length
                    · rw [if_pos c] at e2; cases e2; rfl
                    · rw [if_neg c] at e2; cases e2
              subst hh
              simp only [e2] at e1
              refine ⟨ρ', h4, wipeU η vs, η', u, ⟨rep2, (at1.env.ext ex3).wipe vs⟩, rt, tgM_wipe h1 e2, fun σ2 rσ hl2 hj => ?_⟩
              refine ⟨wipe_eq hl2 fun j hj2 => hj j fun z => hj2 (h2 j z), ρ', h4, η', ⟨rep2, rσ⟩, ?_⟩
              cases e3 : mt η' h4 with
              | bad => simp only [e3] at e1; cases e1
              | exc c fs h5 => simp only [e3] at e1; cases e1
              | ok c h5 =>
                simp only [e3] at e1
                intro ρ3 H3 x3 rep3
                have nD3 := nD.ext x3 hz2
                have hz3 := x3.keep D _ nD hz2
                have ex4 := ex3.trans x3
                have ra3 := (ra.ext ex2).ext x3
                cases c with
                | false =>
                  simp only [Bool.false_eq_true, if_false] at e1 ⊢
                  cases e1
                  exact ⟨I.us.length - (i + 1), by omega, by rw [← hWW]; exact ⟨rfl, by omega, ρ3, h3, accU, zs, rep3, ex4, nD3, hz3, ra3, nd, by omega, pp⟩⟩
                | true =>
                  simp only [if_true] at e1 ⊢
                  refine ⟨ρ3, h5, η', ⟨rep3, rσ.ext x3⟩, ?_⟩
                  cases e4 : mk η' h5 with
                  | bad => simp only [e4] at e1; cases e1
                  | exc c fs h5 => simp only [e4] at e1; cases e1
                  | ok k2 h6 =>
                    simp only [e4] at e1
                    intro ρ4 H4 x4 rep4 y4 ry4
                    have hz4 := x4.keep D _ nD3 hz3
                    have nD4 := nD3.ext x4 hz3
                    have ra4 := ra3.ext x4
                    refine ⟨ρ4, h6, η', ⟨rep4, (rσ.ext x3).ext x4⟩, ?_⟩
                    cases e5 : me η' h6 with
                    | bad => simp only [e5] at e1; cases e1
                    | exc c fs h5 => simp only [e5] at e1; cases e1
                    | ok v2 h7 =>
                      simp only [e5] at e1
                      cases e1
                      intro ρ5 H5 x5 rep5 y5 ry5
                      have hz5 := x5.keep D _ nD4 hz4
                      have nD5 := nD4.ext x5 hz4
                      have ra5 := ra4.ext x5
                      have nz : ∀ z w, HO.dK zs ≠ .frz z w := fun _ _ z => nomatch z
                      have hle : zs.length ≤ i := by rw [← ra.len]; exact hl
                      simp only at pp
                      by_cases ks : isKS k2 = true
                      · rw [if_pos ks] at pp
                        obtain ⟨key, hkey⟩ := key_of ks ry4
                        subst hkey
                        have rk := ry4.ext x5
                        refine ⟨zs, key, rfl, hz5, by omega, I.us.length - (i + 1), by omega, ?_⟩
                        rw [← hWW]
                        refine ⟨rfl, by omega, ρ5, h3, dput k2 v2 accU, putK zs key y5, rep5.own nD5 hz5 nz, ((ex4.trans x4).trans x5).own hD hz5 nz, nD5, upd_same, ?_, dput_nodup nd, Nat.le_trans dput_len (by omega), pp⟩
                        exact (RepKs.put rk ry5 ra5 nd).extw (.own hz5 nz)
                      · rw [if_neg ks] at pp
                        exact pp.elim
      · have ei : i = I.us.length := by omega
        subst ei
        refine .inl ⟨ok.stop ρ' h' H' ex rep w, ?_⟩
        rw [List.drop_length] at pp
        unfold bnd compD at pp
        rw [if_pos w] at pp
        refine pp (ρ' ++ [D]) H' (ex.join hD) (rep.join nD ⟨zs, hz, ra.extw ⟨⟨[D], rfl⟩, fun _ _ _ e => e⟩, nd⟩) _ ?_
        unfold RepV
        exact ⟨D, by rw [← rep.len]; simp, rfl⟩
  · rw [if_neg hsz] at p1
    exact p1.elim
end
end MP
/-! MPl: statements. -/
namespace MP
open PySem L2

abbrev WE (E : XK) : WX := fun c d _ H => E c d H
/-- what is wanted at a statement's end -/
def RF (K : PySem.W.Frag) (D : Ends) : Fl → Rho → Hp → Prop
  | .next η, ρ, H => ∀ σ, REnv K ρ H η σ → D.nx σ H
  | .ret u, ρ, H => ∀ v, RepV K ρ H u v → D.rt v H
  | .brk η, ρ, H => ∀ σ, REnv K ρ H η σ → D.bk σ H
  | .cont η, ρ, H => ∀ σ, REnv K ρ H η σ → D.ct σ H
def qS (X : Cx) (E : XK) (m : SM) : TS := fun D σ H => ∃ ρ h η, At X.K X.mg ρ h η σ H ∧ Post X.K X.mg E (RF X.K D) ρ H (m η h)
section
variable {X : Cx} {E : XK} {e a b c o : Expr} {ma mb mc mo : EM} {ms : List EM} {es : List Expr} {pos p apos : Pos} {σ : L2.St} {H : Hp} {Q : VK} {ρ : Rho} {h : VH} {η : Env} {D : Ends}
theorem Post.nx {K : PySem.W.Frag} {mg : Str → Option Value} (p : Post K mg E (RF K D) ρ H (.ok (.next η) h)) (r : RepH K mg ρ h H) {σ : L2.St} (re : REnv K ρ H η σ) : D.nx σ H := p ρ H .refl r σ re
theorem s_bad {st : Stmt} : PS X st (qS X E sBad) := ⟨fun _ _ _ _ _ _ ⟨_, _, _, _, p⟩ => p.elim⟩
theorem ss_bad {st : List Stmt} : PSs X st (qS X E sBad) := ⟨fun _ _ _ _ _ _ ⟨_, _, _, _, p⟩ => p.elim⟩
theorem i_nil (D : Ends) (σ : L2.St) (H : Hp) (q : qS X E sNil D σ H) : D.nx σ H := by
  obtain ⟨ρ, h, η, at_, p⟩ := q
  exact Post.nx p at_.heap at_.env
theorem s_pass : PS X (.Pass pos) (qS X E sNil) := ps_pass.impU i_nil
theorem s_doc {x : Str} {j : Nat} {pos' : Pos} : PS X (.Expr (.Constant (.str x) j pos) pos') (qS X E sNil) := ps_doc.impU i_nil
theorem s_brk : PS X (.Break pos) (qS X E sBrk) := ps_break.impU fun D σ H ⟨ρ, h, η, at_, p⟩ => p ρ H .refl at_.heap σ at_.env
theorem s_cont : PS X (.Continue pos) (qS X E sCont) := ps_continue.impU fun D σ H ⟨ρ, h, η, at_, p⟩ => p ρ H .refl at_.heap σ at_.env
theorem s_retN : PS X (.Return none pos) (qS X E sRetN) := ps_retN.impU fun D σ H ⟨ρ, h, η, at_, p⟩ => p ρ H .refl at_.heap .non rfl
theorem s_ret (he : PE X e (qE X (WE E) ma)) : PS X (.Return (some e) pos) (qS X E (sRet ma)) :=
  (ps_ret he).impU fun D σ H ⟨ρ, h, η, at_, p⟩ =>
    tE.first (k := fun u η => mret (Fl.ret u)) at_ rfl p fun u x ρ1 h1 H1 at1 x1 ru p1 => p1 ρ1 H1 .refl at1.heap x ru
theorem sw_none (hn : noComp e = true) (tg : Option Expr) (l : Nat) (env : PySem.Env) : swapsWith e tg l env = pure false := by
  cases e <;> first | rfl | (exact absurd hn (by simp [noComp]))
theorem s_exp (hn : noComp e = true) (he : PE X e (qE X (WE E) ma)) : PS X (.Expr e pos) (qS X E (sExp ma)) :=
  (ps_expr he (sw_none hn _ _ _)).impU fun D σ H ⟨ρ, h, η, at_, p⟩ =>
    tE.first (k := fun _ η => mret (Fl.next η)) at_ rfl p fun u x ρ1 h1 H1 at1 x1 ru p1 => Post.nx p1 at1.heap at1.env
theorem s_if {mt : TM} {ta tb : List Stmt} {x y : SM} (hc : PT X c (qT X (WE E) mt)) (ha : PSs X ta (qS X E x)) (hb : PSs X tb (qS X E y)) : PS X (.If c ta tb pos) (qS X E (sIf mt x y)) :=
  (ps_if hc ha hb).impU fun D σ H ⟨ρ, h, η, at_, p⟩ =>
    tT.first (k := fun c η => if c = true then x η else y η) at_ rfl p fun k ρ1 h1 H1 at1 x1 p1 => by
      cases k with
      | true => exact ⟨ρ1, h1, η, at1, p1⟩
      | false => exact ⟨ρ1, h1, η, at1, p1⟩
theorem ss_nil : PSs X [] (qS X E sNil) := by
  refine ⟨fun pins s σ H D I q => pss_nil.run pins s σ H D I (i_nil D σ H q)⟩
theorem ss_cons {st : Stmt} {r : List Stmt} {x y : SM} (h1 : PS X st (qS X E x)) (h2 : PSs X r (qS X E y)) : PSs X (st :: r) (qS X E (sSeq x y)) :=
  (pss_cons h1 h2).impU fun D σ H ⟨ρ, h, η, at_, p⟩ => by
    refine ⟨ρ, h, η, at_, ?_⟩
    unfold sSeq at p
    refine p.bind fun r ρ1 h1 H1 x1 rep p1 => ?_
    cases r with
    | next η' => exact fun σ' re => ⟨ρ1, h1, η', ⟨rep, re⟩, p1⟩
    | ret u => exact p1 ρ1 H1 .refl rep
    | brk η' => exact p1 ρ1 H1 .refl rep
    | cont η' => exact p1 ρ1 H1 .refl rep
/-! assignments -/
theorem tgM_res {g : Tg} {u : U} (η : Env) (h : VH) : tgM g u η h = .bad ∨ ∃ η', tgM g u η h = .ok η' h := by
  cases g with
  | one i => exact .inr ⟨_, rfl⟩
  | many is =>
    unfold tgM
    simp only
    cases e2 : seqOf h u with
    | none => exact .inl rfl
    | some us =>
      simp only
      by_cases c : us.length = is.length
      · exact .inr ⟨_, if_pos c⟩
      · exact .inl (if_neg c)
theorem tg_post {α : Type} {K : PySem.W.Frag} {mg : Str → Option Value} {R : α → Rho → Hp → Prop} {g : Tg} {u : U} {k : Env → M α} (p : Post K mg E R ρ H (bnd (tgM g u η) k h)) : ∃ η', tgM g u η h = .ok η' h ∧ Post K mg E R ρ H (k η' h) := by
  unfold bnd at p
  rcases tgM_res (g := g) (u := u) η h with e | ⟨η', e⟩
  · rw [e] at p; exact p.elim
  · rw [e] at p; exact ⟨η', e, p⟩
theorem i_tg {g : Tg} (D : Ends) (σ : L2.St) (H : Hp) (q : qS X E (sTg g ma) D σ H) : tAsg (qE X (WE E) ma) (qG X false g) D σ H := by
  obtain ⟨ρ, h, η, at_, p⟩ := q
  refine tE.first (k := fun u η => bnd (tgM g u η) fun η' => mret (Fl.next η')) at_ rfl p fun u x ρ1 h1 H1 at1 x1 ru p1 => ?_
  obtain ⟨η', e1, p2⟩ := tg_post p1
  exact ⟨ρ1, h1, η, η', u, at1, ru, e1, fun σ' re _ _ => Post.nx p2 at1.heap re⟩
theorem s_tg {t : Expr} {g : Tg} (hg : PG X t (qG X false g)) (he : PE X e (qE X (WE E) ma)) (hs : swapsWithSole [t] e pos.line X.env = pure false) (hw : swappedStores [t] e X.env = pure none) (h1 : (assignEach [t] X.env).map (·.2) = [assign t X.env]) :
    PS X (.Assign [t] e pos) (qS X E (sTg g ma)) := (ps_asg he hg hs hw h1).impU i_tg
theorem ss_name {x : Str} : swappedStores [.Name x p] e X.env = pure none := by
  unfold swappedStores
  cases e <;> rfl
theorem ss_sub {i : Expr} : swappedStores [.Subscript o i p] e X.env = pure none := by
  unfold swappedStores
  cases e <;> rfl
theorem ss_tup {ts : List Expr} {k : Nat} (he : ∀ es k p, e ≠ .Tuple es k p) : swappedStores [.Tuple ts k p] e X.env = pure none := by
  unfold swappedStores
  cases e <;> first | rfl | exact absurd rfl (he _ _ _)
theorem sw_tup {ts : List Expr} {k : Nat} (l : Nat) : swapsWithSole [.Tuple ts k p] e l X.env = pure false := by
  unfold swapsWithSole swapsWith
  cases e <;> rfl
theorem sw_sub {i : Expr} (l : Nat) : swapsWithSole [.Subscript o i p] e l X.env = pure false := by
  unfold swapsWithSole swapsWith
  cases e <;> rfl
theorem sw_attr {f : Str} (l : Nat) : swapsWith e (some (.Attribute o f p)) l X.env = pure false := by
  unfold swapsWith
  cases e <;> rfl
theorem sw_lc {elt : Expr} {gs : List Comprehension} {csc : Scope} {q : Pos} {x : Str} (hl : (p.line == q.line) = false) (l : Nat) : swapsWith (.ListComp elt gs csc q) (some (.Name x p)) l X.env = pure false := by
  have : (Expr.ListComp elt gs csc q).pos = q := rfl
  unfold swapsWith
  simp only [this, hl, Bool.and_false, Bool.false_and]
theorem sw_dc {kx elt : Expr} {gs : List Comprehension} {csc : Scope} {q : Pos} {x : Str} (hl : (p.line == q.line) = false) (l : Nat) : swapsWith (.DictComp kx elt gs csc q) (some (.Name x p)) l X.env = pure false := by
  have : (Expr.DictComp kx elt gs csc q).pos = q := rfl
  unfold swapsWith
  simp only [this, hl, Bool.and_false, Bool.false_and]
theorem sw_cell {elt : Expr} {gs : List Comprehension} {csc : Scope} {q : Pos} {x : Str} (hl : X.env.scope.names.lookup x = some .cell) (l : Nat) : swapsWith (.ListComp elt gs csc q) (some (.Name x p)) l X.env = pure false := by
  have k : X.env.kindOf x = some .cell := hl
  have e : ((some NameKind.cell : Option NameKind) == some NameKind.local) = false := by decide
  unfold swapsWith
  simp only [k, e, Bool.and_false, Bool.false_and]
theorem sw_cellD {kx elt : Expr} {gs : List Comprehension} {csc : Scope} {q : Pos} {x : Str} (hl : X.env.scope.names.lookup x = some .cell) (l : Nat) : swapsWith (.DictComp kx elt gs csc q) (some (.Name x p)) l X.env = pure false := by
  have k : X.env.kindOf x = some .cell := hl
  have e : ((some NameKind.cell : Option NameKind) == some NameKind.local) = false := by decide
  unfold swapsWith
  simp only [k, e, Bool.and_false, Bool.false_and]
theorem s_put {i : Expr} {mi me : EM} (hi : ∀ a b c p, i ≠ .Slice a b c p) (ho : PE X o (qE X (WE E) mo)) (hx : PE X i (qE X (WE E) mi)) (he : PE X e (qE X (WE E) me)) : PS X (.Assign [.Subscript o i p] e pos) (qS X E (sPut mo mi me)) :=
  (ps_asg he (pg_sub ho hx set_U (by intro v; cases i <;> first | rfl | exact absurd rfl (hi _ _ _ _))) (sw_sub _) ss_sub rfl).impU fun D σ H ⟨ρ, h, η, at_, q⟩ => by
    refine tE.first (k := fun v η => bnd (mo η) fun u => bnd (mi η) fun k => bnd (setU u k v) fun _ => mret (Fl.next η)) at_ rfl q fun v xv ρ1 h1 H1 at1 x1 rv p1 => ?_
    refine tE.first (k := fun u η => bnd (mi η) fun k => bnd (setU u k v) fun _ => mret (Fl.next η)) at1 rfl p1 fun u xu ρ2 h2 H2 at2 x2 ru p2 => ?_
    refine tE.first (k := fun k η => bnd (setU u k v) fun _ => mret (Fl.next η)) at2 rfl p2 fun k xk ρ3 h3 H3 at3 x3 rk p3 => ?_
    refine ⟨E, ρ3, h3, u, k, v, at3.heap, ru.ext x3, rk, (rv.ext x2).ext x3, ?_⟩
    refine p3.bind fun _ ρ4 h4 H4 x4 rep4 p4 => ?_
    exact Post.nx p4 rep4 (at3.env.ext x4)
theorem setF_open {K : PySem.W.Frag} {mg : Str → Option Value} {α : Type} {R : α → Rho → Hp → Prop} {cs : List Str} {f : Str} {u v : U} {x y : V} {k : Unit → M α} (r : RepH K mg ρ h H) (ru : RepV K ρ H u x) (rv : RepV K ρ H v y) (p : Post K mg E R ρ H (bnd (setFldU cs f u v) k h)) :
    ∃ a c C dx fv h', c ∈ cs ∧ mg c = some (.ref C) ∧ x = .ref a ∧ H a = some (.ins C dx fv) ∧ fv.length < 1000 ∧ RepH K mg ρ h' (upd H a (.ins C dx (L2.putF f y fv))) ∧ Ext ρ H ρ (upd H a (.ins C dx (L2.putF f y fv))) ∧ Post K mg E R ρ H (k () h') := by
  unfold bnd setFldU at p
  cases u with
  | ref n =>
    simp only at p
    cases e1 : h[n]? with
    | none => simp only [e1] at p; exact p.elim
    | some vo =>
      obtain ⟨a, r1, f1, ro⟩ := RepV.ref_at r ru e1
      cases vo with
      | ins c fs =>
        simp only [e1] at p
        by_cases hc : c ∈ cs ∧ fs.length < 1000
        · rw [if_pos hc] at p
          obtain ⟨C, dx, fv, k1, k2, k3⟩ := ro
          have ex : Ext ρ H ρ (upd H a (.ins C dx (L2.putF f y fv))) := .write (r.pos e1 (fun _ z => nomatch z)) r1 k2 (fun _ _ z => nomatch z)
          exact ⟨a, c, C, dx, fv, h.set n (.ins c (MP.putF f v fs)), hc.1, k1, f1, k2, by rw [← k3.len]; exact hc.2,
            r.write e1 (fun _ z => nomatch z) r1 (fun _ z => nomatch z) ⟨C, dx, _, k1, upd_same, RepFs.putF (rv.ext ex) (k3.ext ex)⟩, ex, p⟩
        · rw [if_neg hc] at p
          exact p.elim
      | _ => simp only [e1] at p; exact p.elim
  | _ => exact p.elim
theorem s_fld {cs : List Str} {f : Str} {me : EM} (hf : ∀ c ∈ cs, ∃ C, X.mg c = some (.ref C) ∧ Cls X.K C ∧ NoAttr X.K C f) (ho : PE X o (qE X (WE E) mo)) (he : PE X e (qE X (WE E) me)) : PS X (.Assign [.Attribute o f p] e pos) (qS X E (MP.sFld cs f mo me)) :=
  (ps_fld ho he (sw_attr _)).impU fun D σ H ⟨ρ, h, η, at_, q⟩ => by
    refine tE.first (k := fun v η => bnd (mo η) fun u => bnd (setFldU cs f u v) fun _ => mret (Fl.next η)) at_ rfl q fun v xv ρ1 h1 H1 at1 x1 rv p1 => ?_
    refine tE.first (k := fun u η => bnd (setFldU cs f u v) fun _ => mret (Fl.next η)) at1 rfl p1 fun u xu ρ2 h2 H2 at2 x2 ru p2 => ?_
    obtain ⟨a, c, C, dx, fv, h', hc, g1, f1, g2, hl, rep, ex, p3⟩ := setF_open at2.heap ru (rv.ext x2) p2
    obtain ⟨C', k1, k2, k3⟩ := hf c hc
    rw [g1] at k1
    cases k1
    exact ⟨a, C, dx, fv, f1, g2, k2, k3, hl, p3 ρ2 _ ex rep σ (at2.env.ext ex)⟩
theorem s_aug {N : List Str} {sc : Scope} {x : Str} {i : Nat} (G : GOk N sc X) (e1 : slotL N sc x = some i) (he : PE X e (qE X (WE E) ma)) : PS X (.AugAssign (.Name x p) .Add e pos) (qS X E (MP.sAug i (opI fun a b => some (.int (a + b))) ma)) := by
  obtain ⟨c, hi⟩ := slotL_at e1
  obtain ⟨l1, l2⟩ := G.loc x c
  refine (ps_aug (by rw [G.hN]; exact G.nd) (by rw [G.hN]; exact hi) l1 he ip_add l2).impU fun D σ H ⟨ρ, h, η, at_, q⟩ => ?_
  unfold MP.sAug xV bnd at q
  cases e2 : η[i]?.join with
  | none => rw [e2] at q; exact q.elim
  | some u =>
    have e3 : η[i]? = some (some u) := by
      cases e4 : η[i]? with
      | none => rw [e4] at e2; cases e2
      | some z => rw [e4] at e2; exact congrArg some e2
    rw [e2] at q
    obtain ⟨xv, g1, g2⟩ := at_.env.get e3
    refine ⟨xv, g1, ?_⟩
    have q : Post X.K X.mg E (RF X.K D) ρ H (bnd (ma η) (fun v => bnd (opI (fun a b => some (.int (a + b))) u v) fun w => mret (Fl.next (η.set i (some w)))) h) := q
    refine tE.first (k := fun v η => bnd (opI (fun a b => some (.int (a + b))) u v) fun w => mret (Fl.next (η.set i (some w)))) at_ rfl q fun v y ρ1 h1 H1 at1 x1 rv p1 => ?_
    cases u with
    | int j =>
      cases v with
      | int k =>
        have r1 := g2
        have r2 := rv
        unfold RepV at r1 r2
        refine ⟨j, k, r1, r2, ?_⟩
        exact p1 ρ1 H1 .refl at1.heap _ (at1.env.set i (by unfold RepV; rfl))
      | _ => exact p1.elim
    | _ => cases v <;> exact p1.elim
theorem s_faug {cs : List Str} {f : Str} {me : EM} (hf : ∀ c ∈ cs, ∃ C, X.mg c = some (.ref C) ∧ Cls X.K C ∧ NoAttr X.K C f) (ho : PE X o (qE X (WE E) mo)) (he : PE X e (qE X (WE E) me)) : PS X (.AugAssign (.Attribute o f p) .Add e pos) (qS X E (MP.sFldAug cs f mo me)) :=
  (ps_fldaug ho he ip_add).impU fun D σ H ⟨ρ, h, η, at_, q⟩ => by
    refine tE.first (k := fun u η => bnd (clsU u) fun c => if c ∈ cs then
      bnd (fldU [c] f u) fun x => bnd (me η) fun y => bnd (opI (fun a b => some (.int (a + b))) x y) fun z => bnd (setFldU [c] f u z) fun _ => mret (Fl.next η) else mbad) at_ rfl q fun u xu ρ1 h1 H1 at1 x1 ru p1 => ?_
    unfold clsU at p1
    cases u with
    | ref n =>
      unfold bnd at p1
      simp only at p1
      cases e1 : h1[n]? with
      | none => simp only [e1] at p1; exact p1.elim
      | some vo =>
        obtain ⟨a, r1, f1, ro⟩ := RepV.ref_at at1.heap ru e1
        cases vo with
        | ins c fs =>
          simp only [e1] at p1
          by_cases hc : c ∈ cs
          · rw [if_pos hc] at p1
            obtain ⟨C, dx, fv, k1, k2, k3⟩ := ro
            obtain ⟨C', j1, j2, j3⟩ := hf c hc
            rw [k1] at j1
            cases j1
            unfold fldU at p1
            simp only [e1] at p1
            rw [if_pos List.mem_cons_self] at p1
            cases e2 : fs.lookup f with
            | none => simp only [e2] at p1; exact p1.elim
            | some w =>
              simp only [e2] at p1
              obtain ⟨xw, g1, g2⟩ := k3.lookup e2
              refine ⟨a, C, dx, fv, xw, f1, k2, j2, j3, g1, ?_⟩
              have p1 : Post X.K X.mg E (RF X.K D) ρ1 H1 (bnd (me η) (fun y => bnd (opI (fun a b => some (.int (a + b))) w y) fun z => bnd (setFldU [c] f (.ref n) z) fun _ => mret (Fl.next η)) h1) := p1
              refine tE.first (k := fun y η => bnd (opI (fun a b => some (.int (a + b))) w y) fun z => bnd (setFldU [c] f (.ref n) z) fun _ => mret (Fl.next η)) at1 rfl p1 fun y yv ρ2 h2 H2 at2 x2 ry p2 => ?_
              cases w with
              | int j =>
                cases y with
                | int k =>
                  have r1 := g2
                  have r2 := ry
                  unfold RepV at r1 r2
                  refine ⟨j, k, r1, r2, ?_⟩
                  have p2 : Post X.K X.mg E (RF X.K D) ρ2 H2 (bnd (setFldU [c] f (.ref n) (.int (j + k))) (fun _ => mret (Fl.next η)) h2) := p2
                  obtain ⟨a', c', C', dx', fv', h', hc', g1', f1', g2', hl', rep', ex', p3⟩ := setF_open (y := .int (j + k)) at2.heap (ru.ext x2) (by unfold RepV; rfl) p2
                  rw [f1] at f1'
                  cases f1'
                  rw [List.mem_singleton.mp hc', k1] at g1'
                  cases g1'
                  exact ⟨dx', fv', g2', hl', p3 ρ2 _ ex' rep' σ (at2.env.ext ex')⟩
                | _ => exact p2.elim
              | _ => cases y <;> exact p2.elim
          · rw [if_neg hc] at p1
            exact p1.elim
        | _ => simp only [e1] at p1; exact p1.elim
    | _ => exact p1.elim
def isSt (e : Expr) : Bool := match e with | .Starred .. => true | _ => false
theorem noSt_m {e : Expr} (h : noSt e = true) : isSt e = false := by
  cases e <;> first | rfl | (exact absurd h (by simp [noSt]))
theorem par_stores {sc : Scope} {ts es : List Expr} {x y : Str} {k k2 : Nat} {p2 : Pos} (hs : X.env.scope = sc) (hk : sc.kind = .function) (e : parC sc ts es = some (x, y)) : ∃ px py a b, ts = [.Name x px, .Name y py] ∧ es = [a, b] ∧ sc.names.lookup x = some .local ∧ sc.names.lookup y = some .local ∧ x ≠ y ∧
    swappedStores [.Tuple ts k p] (.Tuple es k2 p2) X.env = pure (some [x, y]) := by
  unfold parC at e
  split at e
  · rename_i x0 px y0 py a b
    split at e
    · rename_i c
      cases e
      simp only [Bool.and_eq_true, decide_eq_true_eq, Bool.not_eq_true', beq_eq_false_iff_ne] at c
      obtain ⟨⟨⟨⟨⟨⟨⟨c1, c2⟩, c3⟩, c4⟩, c5⟩, c6⟩, c7⟩, c8⟩ := c
      refine ⟨px, py, a, b, rfl, rfl, c1, c2, c4, ?_⟩
      have bk : X.env.blockKind = .function := by unfold Env.blockKind; rw [hs, hk]; rfl
      have k1 : X.env.kindOf x = some .local := by unfold Env.kindOf; rw [hs]; exact c1
      have k2 : X.env.kindOf y = some .local := by unfold Env.kindOf; rw [hs]; exact c2
      have f1 : (foldedForSure 8 a && (foldedForSure 8 b && true)) = false := by rw [Bool.and_true]; exact c7
      have f2 : (constantsAlone 8 a && (constantsAlone 8 b && true)) = false := by rw [Bool.and_true]; exact c8
      have ed : (x == y) = false := by simpa using c4
      have ed2 : (y == x) = false := by simpa using fun z => c4 z.symm
      unfold swappedStores
      simp only [List.length_cons, List.length_nil, bk, List.any_cons, List.any_nil, noSt_m c5, noSt_m c6, List.all_cons, List.all_nil, f1, f2, k1, k2, List.filterMap_cons, List.filterMap_nil, List.head?_cons]
      have lx : (Option.map (fun x : Expr => x.pos.line) (some (Expr.Name x px))).getD 0 = px.line := rfl
      have e1 : (some NameKind.local == some NameKind.local && px.line == px.line) = true := by simp
      have e2 : (some NameKind.local == some NameKind.local && py.line == px.line) = true := by
        rw [beq_iff_eq.mp c3]
        simp
      have e3 : ([x, y] : List Str).eraseDups = [x, y] := by
        simp [List.eraseDups_cons, ed2]
      simp only [lx, e1, e2, if_true, e3]
      have key : ∀ p q : Bool, p = false → q = false → (if (p || (q || false)) = true then (pure none : Sem (Option (List Str))) else pure (some [x, y])) = pure (some [x, y]) := fun p q hp hq => by subst hp; subst hq; rfl
      exact key (isSt a) (isSt b) (noSt_m c5) (noSt_m c6)
    · cases e
  · cases e
theorem s_par {N : List Str} {sc : Scope} {ts : List Expr} {x y : Str} {i j k k2 : Nat} {p2 : Pos} (hs : X.env.scope = sc) (hk : sc.kind = .function) (hc : X.calm = true) (hN : X.N = N) (nd : N.Nodup) (e : parC sc ts es = some (x, y)) (ex : slotL N sc x = some i) (ey : slotL N sc y = some j) (hms : ms.length = 2)
    (ha : PA X es (qA X (WE E) (evL ms))) : PS X (.Assign [.Tuple ts k p] (.Tuple es k2 p2) pos) (qS X E (sPar [i, j] ms)) := by
  obtain ⟨px, py, a, b, rfl, rfl, c1, c2, hxy, hw⟩ := par_stores (k := k) (k2 := k2) (p := p) (p2 := p2) hs hk e
  obtain ⟨_, n1⟩ := slotL_at ex
  obtain ⟨_, n2⟩ := slotL_at ey
  have hij : i ≠ j := fun z => hxy (by subst z; rw [n1] at n2; exact Option.some.inj n2)
  refine (ps_par hc (by rw [hN]; exact nd) (by rw [hN]; exact n1) (by rw [hN]; exact n2) hij (by rw [hs]; exact c1) (by rw [hs]; exact c2) ha hw rfl).impU fun D σ H ⟨ρ, h, η, at_, q⟩ => ?_
  refine tA.firstL (k := fun us η => mret (Fl.next (MP.setAll [i, j] us η))) at_ rfl q fun us vs ρ1 h1 H1 at1 x1 rus hn p1 => ?_
  rw [hms] at hn
  match us, rus, hn, p1 with
  | [u, v], rus, _, p1 =>
    unfold RepVs RepVs RepVs at rus
    obtain ⟨y1, r1, e1, ry, z1, r2, e2, rz, e3⟩ := rus
    subst e3 e2 e1
    exact ⟨y1, z1, rfl, Post.nx p1 at1.heap ((at1.env.set i ry).set j rz)⟩
/-! loops -/
theorem s_while {mt : TM} {tb : List Stmt} {x : SM} (hp : PassesOwn (model X.prog X.w) X.A X.env X.xe) (hc : PT X c (qT X (WE E) mt)) (hb : PSs X tb (qS X E x)) : PS X (.While c tb [] pos) (qS X E (sWhile mt x)) :=
  (ps_while hp hc hb).impU fun D σ H ⟨ρ, h, η, at_, q⟩ => by
    unfold sWhile at q
    split at q
    · rename_i ex
      have hsome := Classical.choose_spec ex
      generalize Classical.choose ex = n0 at q hsome
      refine ⟨fun n σ H => ∃ ρ h η r, At X.K X.mg ρ h η σ H ∧ whileN mt x n η h = some r ∧ Post X.K X.mg E (RF X.K D) ρ H r, ⟨n0, ?_⟩, ?_⟩
      · cases e : whileN mt x n0 η h with
        | none => rw [e] at hsome; cases hsome
        | some r =>
          rw [e] at q
          exact ⟨ρ, h, η, r, at_, e, q⟩
      · rintro n σ H ⟨ρ, h, η, r, at_, e, q⟩
        cases n with
        | zero => cases e
        | succ n =>
          unfold whileN at e
          refine ⟨ρ, h, η, at_, ?_⟩
          cases e1 : mt η h with
          | bad => simp only [e1] at e; cases e; exact q.elim
          | exc c fs h1 => simp only [e1] at e; cases e; exact q
          | ok b h1 =>
            simp only [e1] at e
            intro ρ1 H1 x1 rep1
            have at1 := at_.ext x1 rep1
            have q1 := Post.ext x1 q
            cases b with
            | false =>
              simp only [Bool.false_eq_true, if_false] at e ⊢
              cases e
              unfold RB
              simp only [Bool.false_eq_true, if_false]
              exact Post.nx q1 rep1 at1.env
            | true =>
              unfold RB
              simp only [if_true]
              rw [if_pos rfl] at e
              refine ⟨fun σ' H' => ∃ ρ h η r, At X.K X.mg ρ h η σ' H' ∧ whileN mt x n η h = some r ∧ Post X.K X.mg E (RF X.K D) ρ H' r, fun σ' H' w => ⟨n, Nat.lt_succ_self n, w⟩, ρ1, h1, η, at1, ?_⟩
              cases e2 : x η h1 with
              | bad => simp only [e2] at e; cases e; exact q1.elim
              | exc c fs h2 => simp only [e2] at e; cases e; exact q1
              | ok fl h2 =>
                cases fl with
                | next η' => simp only [e2] at e; exact fun ρ2 H2 x2 rep2 σ2 re2 => ⟨ρ2, h2, η', r, ⟨rep2, re2⟩, e, Post.ext x2 q1⟩
                | cont η' => simp only [e2] at e; exact fun ρ2 H2 x2 rep2 σ2 re2 => ⟨ρ2, h2, η', r, ⟨rep2, re2⟩, e, Post.ext x2 q1⟩
                | brk η' => simp only [e2] at e; cases e; exact fun ρ2 H2 x2 rep2 σ2 re2 => q1 ρ2 H2 x2 rep2 σ2 re2
                | ret u => simp only [e2] at e; cases e; exact fun ρ2 H2 x2 rep2 => q1 ρ2 H2 x2 rep2
    · exact q.elim
theorem s_for {t it : Expr} {tb : List Stmt} {g : Tg} {x : SM} {mi : Env → M Itr} {pr : Bool} (hp : PassesOwn (model X.prog X.w) X.A X.env X.xe) (hc : X.calm = true) (hi : PI X t it (qI X (WE E) pr mi)) (hg : PG X t (qG X pr g)) (hb : PSs X tb (qS X E x))
    (hs : ∀ x, foldedSetIterable it X.env x = pure x) : PS X (.For t it tb [] pos) (qS X E (sFor mi g x)) :=
  (ps_for hp hc hi hg hb hs).impU fun D σ H ⟨ρ, h, η, at_, q⟩ => by
    unfold sFor at q
    refine ⟨ρ, h, η, at_, q.bind fun I ρ1 h1 H1 x1 r1 p1 J ok => ?_⟩
    have at1 := at_.ext x1 r1
    generalize hWW : (fun (i m : Nat) (σ : L2.St) (H : Hp) => m = I.us.length - i ∧ i ≤ I.us.length ∧ ∃ ρ h η, At X.K X.mg ρ h η σ H ∧ Ext ρ1 H1 ρ H ∧ Post X.K X.mg E (RF X.K D) ρ H (forL I.w (tgM g) x (I.us.drop i) η h)) = WW
    refine ⟨WW, ⟨I.us.length, by rw [← hWW]; exact ⟨by simp, Nat.zero_le _, ρ1, h1, η, at1, .refl, p1⟩⟩, ?_⟩
    intro i m σ' H' hw
    rw [← hWW] at hw
    obtain ⟨rfl, hi, ρ', h', η', at', ex, pp⟩ := hw
    have w : okW I.w h' = true := by
      by_cases c : okW I.w h' = true
      · exact c
      · exfalso
        cases e : I.us.drop i with
        | nil => rw [e] at pp; unfold forL at pp; rw [if_neg c] at pp; exact pp
        | cons u us => rw [e] at pp; unfold forL at pp; rw [if_neg c] at pp; exact pp
    by_cases hlt : i < I.us.length
    · have hu : I.us[i]? = some I.us[i] := List.getElem?_eq_getElem hlt
      generalize I.us[i] = u at hu
      have hdr : I.us.drop i = u :: I.us.drop (i + 1) := by
        rw [List.drop_eq_getElem_cons hlt]
        rw [List.getElem?_eq_getElem hlt] at hu
        rw [Option.some.inj hu]
      rw [hdr] at pp
      unfold forL at pp
      rw [if_pos w] at pp
      refine .inr ⟨ok.go i ρ' h' H' hlt ex at'.heap w, fun σ2 H2 => ∃ m', m' < I.us.length - i ∧ WW (i + 1) m' σ2 H2, fun σ2 H2 hn => hn, fun v H2 y => ?_⟩
      obtain ⟨ex2, rep2, rt⟩ := ok.yld i u ρ' h' H' v H2 hu ex at'.heap w y
      have ex3 := ex.trans ex2
      have pp : Post X.K X.mg E (RF X.K D) ρ' H2 (bnd (tgM g u η') (fun η'' => bnd (x η'') fun r => match r with
        | .next η' => forL I.w (tgM g) x (I.us.drop (i + 1)) η'
        | .cont η' => forL I.w (tgM g) x (I.us.drop (i + 1)) η'
        | .brk η' => mret (.next η')
        | .ret v => mret (.ret v)) h') := by
        have q := Post.ext ex2 pp
        unfold bnd at q ⊢
        cases e1 : tgM g u η' h' with
        | ok z h2 => simp only [e1] at q ⊢; exact q
        | exc c fs h2 => simp only [e1] at q ⊢; exact q
        | bad => simp only [e1] at q ⊢; exact q
      obtain ⟨η2, e1, pp⟩ := tg_post pp
      refine ⟨ρ', h', η', η2, u, ⟨rep2, at'.env.ext ex2⟩, rt, e1, fun σ2 re2 _ _ => ⟨ρ', h', η2, ⟨rep2, re2⟩, ?_⟩⟩
      refine pp.bind fun r ρ3 h3 H3 x3 rep3 p3 => ?_
      have again : ∀ η3, Post X.K X.mg E (RF X.K D) ρ3 H3 (forL I.w (tgM g) x (I.us.drop (i + 1)) η3 h3) → ∀ σ3, REnv X.K ρ3 H3 η3 σ3 → ∃ m', m' < I.us.length - i ∧ WW (i + 1) m' σ3 H3 := fun η3 p4 σ3 re3 =>
        ⟨I.us.length - (i + 1), by omega, by rw [← hWW]; exact ⟨rfl, by omega, ρ3, h3, η3, ⟨rep3, re3⟩, ex3.trans x3, p4⟩⟩
      cases r with
      | next η3 => exact again η3 p3
      | cont η3 => exact again η3 p3
      | brk η3 => exact fun σ3 re3 => Post.nx p3 rep3 re3
      | ret v => exact p3 ρ3 H3 .refl rep3
    · have ei : i = I.us.length := by omega
      subst ei
      refine .inl ⟨ok.stop ρ' h' H' ex at'.heap w, ?_⟩
      rw [List.drop_length] at pp
      unfold forL at pp
      rw [if_pos w] at pp
      exact Post.nx pp at'.heap at'.env
end
end MP
/-! MPm: the compiler keeps what it promises: expressions. -/
namespace MP
open PySem L2

section
variable {T : Tab} {G : Gm} {N : List Str}
structure Snd (T : Tab) (G : Gm) (N : List Str) (n : Nat) : Prop where
  e : ∀ sc X W e m, XOk T G N sc X W → compE T G N n sc e = some m → PE X e (qE X W m)
  q : ∀ sc X W e m, XOk T G N sc X W → compQ T G N n sc e = some m → PE X e (qE X W m)
  c : ∀ sc X W a ops cs pos m, XOk T G N sc X W → compC T G N n sc a ops cs = some m → PE X (.Compare a ops cs pos) (qE X W m) ∧ PT X (.Compare a ops cs pos) (qT X W (tBl m))
  bv : ∀ sc X W op vs pos m, XOk T G N sc X W → compBV T G N n sc op vs = some m → PE X (.BoolOp op vs pos) (qE X W m)
  es : ∀ sc X W es ms, XOk T G N sc X W → compEs T G N n sc es = some ms → PA X es (qA X W (evL ms)) ∧ ms.length = es.length ∧ ∀ e ∈ es, ∀ x p, e ≠ .Starred x p
  o : ∀ sc X W e m, XOk T G N sc X W → compO T G N n sc e = some m → PO X e (tP X W m)
  t : ∀ sc X W e m, XOk T G N sc X W → compT T G N n sc e = some m → PT X e (qT X W m)
  bt : ∀ sc X W op vs pos m, XOk T G N sc X W → compBT T G N n sc op vs = some m → PW X (.BoolOp op vs pos) (qT X W m)
  f : ∀ sc X W es m, XOk T G N sc X W → compIf T G N n sc es = some m → PTs X es (qT X W m)
  i : ∀ sc X W tg it mi pr, XOk T G N sc X W → compI T G N n sc it = some (mi, pr) → (pr = true → ∃ ts k p, tg = .Tuple ts k p) → PI X tg it (qI X W pr mi)
theorem nst {n : Nat} {sc : Scope} {e : Expr} {m : EM} (h : compE T G N n sc e = some m) : ∀ x p, e ≠ .Starred x p := by
  intro x p z
  subst z
  cases n <;> cases h
theorem nsl {n : Nat} {sc : Scope} {e : Expr} {m : EM} (h : compE T G N n sc e = some m) : ∀ a b c p, e ≠ .Slice a b c p := by
  intro a b c p z
  subst z
  cases n <;> cases h
section
variable {X : Cx} {W : WX} {n : Nat} {sc : Scope} {e : Expr} {m : EM}
theorem okN_d {x : Str} (h : okN x = true) : (x == ("__debug__" : Str)) = false := by
  unfold okN at h
  have := (Bool.and_eq_true_iff.mp h).1
  simpa using this
theorem op_rule {op : Operator} {f : O2} (h : opOf op = some f) : OpR X (binaryOp op) (rO X.K X.mg f) := by
  cases op <;> first | (cases h; first | exact o_add | exact o_sub | exact o_mul | exact o_fdiv | exact o_mod | exact o_pow) | cases h
theorem cmp_rule (hu : X.A.units + 65 < cLine) {op : CmpOp} {f : O2} (h : cmpOf op = some f) : OpR X (compareOp op) (rO X.K X.mg f) := by
  cases op <;> first | (cases h; first | exact o_eq (by omega) | exact o_ne (by omega) | exact o_lt | exact o_le | exact o_gt | exact o_ge | exact o_is | exact o_isnot | exact o_in hu | exact o_notin hu) | cases h
theorem lookup_relS_free {sc : Scope} : ∀ {names : List (Str × NameKind)} {x : Str}, names.lookup x = some .free →
    (names.map fun (n, k) => if (k == NameKind.free && sc.kind == .function && sc.names.lookup n == some .cell) then (n, NameKind.cell) else (n, k)).lookup x = some .free ∨
    (names.map fun (n, k) => if (k == NameKind.free && sc.kind == .function && sc.names.lookup n == some .cell) then (n, NameKind.cell) else (n, k)).lookup x = some .cell
  | [], _, h => by cases h
  | (y, k) :: r, x, h => by
    rw [List.map_cons]
    simp only [List.lookup_cons] at h ⊢
    by_cases hc : (k == NameKind.free && sc.kind == .function && sc.names.lookup y == some .cell) = true
    · simp only [if_pos hc, List.lookup_cons]
      cases hx : x == y with
      | true => exact .inr rfl
      | false => rw [hx] at h; exact lookup_relS_free (sc := sc) h
    · simp only [if_neg hc, List.lookup_cons]
      cases hx : x == y with
      | true => rw [hx] at h; exact .inl h
      | false => rw [hx] at h; exact lookup_relS_free (sc := sc) h
/-- a comprehension's block -/
theorem xok_blk (ok : XOk T G N sc X W) {csc : Scope} {own : List (Str × Nat)} (hb : L2.blkC N sc csc own = true) (s : Shared) (H : Hp) (C : Addr) (cl : List (Str × Addr)) (fp : List Addr) : XOk T G N csc (X.blk s H csc (compEnvC csc cl C X.env) fp) W0 := by
  have B := ok.blk csc own hb
  have hsc : (compEnvC csc cl C X.env).scope = relS csc X.env.scope := rfl
  have hk : ∀ {x k}, k ≠ .free → csc.names.lookup x = some k → (relS csc X.env.scope).names.lookup x = some k := fun h1 h2 => lookup_relS_keep h1 h2
  have hf : ∀ {x}, csc.names.lookup x = some .free → (relS csc X.env.scope).names.lookup x = some .free ∨ (relS csc X.env.scope).names.lookup x = some .cell := fun h => lookup_relS_free (sc := X.env.scope) h
  refine ⟨ok.hN, ok.nd, fun x hv => ?_, fun x hg => ?_, fun x hl => ?_, fun c2 own2 hb2 => ?_, ?_, ok.calm, ok.units, takes0, ok.facts⟩
  · show Vis (relS csc X.env.scope) x
    unfold visB at hv
    split at hv
    · rename_i e; exact .inl (hk (by decide) e)
    · rename_i e; exact .inr (.inl (hk (by decide) e))
    · rename_i e
      rcases hf e with q | q
      · exact .inr (.inr q)
      · exact .inr (.inl q)
    · cases hv
  · show (relS csc X.env.scope).names.lookup x = some .globalImplicit
    unfold glB at hg
    split at hg
    · rename_i e; exact hk (by decide) e
    · cases hg
  · show Loc (relS csc X.env.scope) x ∧ ((csc.names.lookup x == some .cell) = true ∨ (relS csc X.env.scope).names.lookup x = some .local)
    unfold locB at hl
    split at hl
    · rename_i e; exact ⟨.inl (hk (by decide) e), .inr (hk (by decide) e)⟩
    · rename_i e; exact ⟨.inr (hk (by decide) e), .inl (by rw [e]; rfl)⟩
    · cases hl
  · have B2 := blkOk_by hb2
    refine ⟨B2.kind, B2.uniq, B2.ix, fun y hy e => ?_, B2.own⟩
    show (relS csc X.env.scope).names.lookup y.1 = some .cell ∨ (relS csc X.env.scope).names.lookup y.1 = some .free
    rcases B2.free y hy e with q | q
    · exact .inl (hk (by decide) q)
    · exact (hf q).symm
  · show csc.kind = .function
    exact B.kind
theorem gok (ok : XOk T G N sc X W) : GOk N sc X := ⟨ok.hN, ok.nd, ok.loc, ok.calm⟩
theorem dsFor_of {np k : Nat} {ds d : List U} (h : dsFor np ds k = some d) : (∃ j, d = ds.drop j) ∧ k + d.length = np := by
  unfold dsFor at h
  split at h
  · rename_i c
    cases h
    exact ⟨⟨_, rfl⟩, c⟩
  · cases h
theorem nil_of {es : List Expr} {ms : List EM} (h : ms.length = es.length) : es = [] → ms = [] := fun z => by
  subst z
  exact List.length_eq_zero_iff.mp h
theorem isf_of (ok : XOk T G N sc X W) {c : Str} (h : c ∈ T.isc) : ∃ v t, IsF X.prog X.K X.mg T.kc c v t := by
  obtain ⟨v, t, h1, h2, h3, h4, h5⟩ := ok.facts.isc c h
  exact ⟨v, t, h1, h2, h3, h4, h5⟩
/-! the built-in functions -/
theorem blt_ok (ok : XOk T G N sc X W) {x : Str} {g : List U → M U} {a : Expr} {es : List Expr} {ms : List EM} {p pos : Pos} (hx : bltOf x = some g) (hg : glB sc x = true) (ho : okN x = true) (ha : PA X (a :: es) (qA X W (evL ms))) (hs : ∀ e ∈ a :: es, ∀ x p, e ≠ .Starred x p) : PE X (.Call (.Name x p) (a :: es) [] pos) (qE X W (xB g ms)) := by
  have hG := ok.gl x hg
  have hD := okN_d ho
  unfold bltOf at hx
  by_cases c1 : x = "len"
  · rw [if_pos c1] at hx; cases hx; subst c1
    exact e_blt c_len ha hD (by decide) hG (ok.facts.blt _ (by decide)) (by decide +kernel) hs
  rw [if_neg c1] at hx
  by_cases c2 : x = "int"
  · rw [if_pos c2] at hx; cases hx; subst c2
    exact e_ty c_int ha hD (by decide) hG (ok.facts.blt _ (by decide)) (by decide +kernel) hs
  rw [if_neg c2] at hx
  by_cases c3 : x = "tuple"
  · rw [if_pos c3] at hx; cases hx; subst c3
    exact e_ty c_tuple ha hD (by decide) hG (ok.facts.blt _ (by decide)) (by decide +kernel) hs
  rw [if_neg c3] at hx
  by_cases c4 : x = "list"
  · rw [if_pos c4] at hx; cases hx; subst c4
    exact e_ty c_list ha hD (by decide) hG (ok.facts.blt _ (by decide)) (by decide +kernel) hs
  rw [if_neg c4] at hx
  by_cases c5 : x = "sorted"
  · rw [if_pos c5] at hx; cases hx; subst c5
    exact e_blt c_sorted ha hD (by decide) hG (ok.facts.blt _ (by decide)) (by decide +kernel) hs
  rw [if_neg c5] at hx
  by_cases c6 : x = "sum"
  · rw [if_pos c6] at hx; cases hx; subst c6
    exact e_blt (c_sum ok.calm) ha hD (by decide) hG (ok.facts.blt _ (by decide)) (by decide +kernel) hs
  rw [if_neg c6] at hx
  by_cases c7 : x = "max"
  · rw [if_pos c7] at hx; cases hx; subst c7
    exact e_blt (c_max ok.calm) ha hD (by decide) hG (ok.facts.blt _ (by decide)) (by decide +kernel) hs
  rw [if_neg c7] at hx
  by_cases c8 : x = "min"
  · rw [if_pos c8] at hx; cases hx; subst c8
    exact e_blt (c_min ok.calm) ha hD (by decide) hG (ok.facts.blt _ (by decide)) (by decide +kernel) hs
  rw [if_neg c8] at hx
  by_cases c9 : x = "abs"
  · rw [if_pos c9] at hx; cases hx; subst c9
    exact e_blt c_abs ha hD (by decide) hG (ok.facts.blt _ (by decide)) (by decide +kernel) hs
  rw [if_neg c9] at hx
  by_cases c10 : x = "all"
  · rw [if_pos c10] at hx; cases hx; subst c10
    exact e_blt (c_all ok.calm) ha hD (by decide) hG (ok.facts.blt _ (by decide)) (by decide +kernel) hs
  rw [if_neg c10] at hx
  by_cases c11 : x = "any"
  · rw [if_pos c11] at hx; cases hx; subst c11
    exact e_blt (c_any ok.calm) ha hD (by decide) hG (ok.facts.blt _ (by decide)) (by decide +kernel) hs
  rw [if_neg c11] at hx
  cases hx
/-! one step of the fuel -/
theorem step_c (ih : Snd T G N n) (ok : XOk T G N sc X W) {a : Expr} {ops : List CmpOp} {cs : List Expr} {pos : Pos} (h : compC T G N (n + 1) sc a ops cs = some m) : PE X (.Compare a ops cs pos) (qE X W m) ∧ PT X (.Compare a ops cs pos) (qT X W (tBl m)) := by
  unfold compC at h
  split at h
  · split at h
    · rename_i h1 h2 h3
      split at h
      · rename_i hm
        cases h
        exact ⟨e_cmp (cmp_rule ok.units h1) hm (ih.q _ _ _ _ _ ok h2) (ih.e _ _ _ _ _ ok h3), t_cmp (cmp_rule ok.units h1) hm (ih.q _ _ _ _ _ ok h2) (ih.e _ _ _ _ _ ok h3)⟩
      · cases h
    · cases h
  · split at h
    · rename_i h1 h2 h3 h4 h5
      split at h
      · rename_i hm
        cases h
        exact ⟨e_chain (cmp_rule ok.units h1) (cmp_rule ok.units h2) (ih.e _ _ _ _ _ ok h3) (ih.e _ _ _ _ _ ok h4) (ih.e _ _ _ _ _ ok h5) hm, t_chain (cmp_rule ok.units h1) (cmp_rule ok.units h2) (ih.e _ _ _ _ _ ok h3) (ih.e _ _ _ _ _ ok h4) (ih.e _ _ _ _ _ ok h5) hm⟩
      · cases h
    · cases h
  · cases h
theorem step_q (ih : Snd T G N n) (ok : XOk T G N sc X W) {e : Expr} (h : compQ T G N (n + 1) sc e = some m) : PE X e (qE X W m) := by
  unfold compQ at h
  split at h
  · split at h
    · rename_i hf
      split at h
      · rename_i h1 h2
        split at h
        · rename_i hm
          cases h
          exact e_cmp (o_own (by have := ok.units; omega) fun c hc => by
            obtain ⟨k, f, C, fd, ps, F, hr, hm, cl, me, hd2⟩ := ok.facts.mth _ _ _ _ hf c hc
            exact ⟨k, f, C, fd, ps, F, hr, hm, me, by
              obtain ⟨dvs, dws, d1, d2, d3⟩ := hd2 0
              cases dvs with
              | nil => cases dws with
                | nil => exact d3
                | cons _ _ => cases d2
              | cons z r => exact absurd (d1 [] (fun _ => none)) (by unfold RepVs; simp)⟩) hm (ih.e _ _ _ _ _ ok h1) (ih.e _ _ _ _ _ ok h2)
        · cases h
      · cases h
    · exact ih.e _ _ _ _ _ ok h
  · exact ih.e _ _ _ _ _ ok h
theorem step_bv (ih : Snd T G N n) (ok : XOk T G N sc X W) {op : BoolOp} {vs : List Expr} {pos : Pos} (h : compBV T G N (n + 1) sc op vs = some m) : PE X (.BoolOp op vs pos) (qE X W m) := by
  unfold compBV at h
  split at h
  · exact pe_one (ih.e _ _ _ _ _ ok h)
  · split at h
    · rename_i h1 h2
      cases h
      cases op with
      | And => exact e_and (ih.e _ _ _ _ _ ok h1) (ih.bv _ _ _ _ _ _ _ ok h2)
      | Or => exact e_or (ih.e _ _ _ _ _ ok h1) (ih.bv _ _ _ _ _ _ _ ok h2)
    · cases h
  · cases h
theorem step_es (ih : Snd T G N n) (ok : XOk T G N sc X W) {es : List Expr} {ms : List EM} (h : compEs T G N (n + 1) sc es = some ms) : PA X es (qA X W (evL ms)) ∧ ms.length = es.length ∧ ∀ e ∈ es, ∀ x p, e ≠ .Starred x p := by
  unfold compEs at h
  split at h
  · cases h
    exact ⟨a_nil, rfl, fun e he => absurd he (by simp)⟩
  · split at h
    · rename_i h1 h2
      cases h
      obtain ⟨q1, q2, q3⟩ := ih.es _ _ _ _ _ ok h2
      refine ⟨a_cons (nst h1) (ih.e _ _ _ _ _ ok h1) q1, by rw [List.length_cons, List.length_cons, q2], fun e he => ?_⟩
      rcases List.mem_cons.mp he with z | z
      · subst z; exact nst h1
      · exact q3 e z
    · cases h
theorem step_o (ih : Snd T G N n) (ok : XOk T G N sc X W) {e : Option Expr} {m : Option EM} (h : compO T G N (n + 1) sc e = some m) : PO X e (tP X W m) := by
  unfold compO at h
  split at h
  · cases h; exact p_none
  · split at h
    · rename_i h1
      cases h
      exact p_some (ih.e _ _ _ _ _ ok h1)
    · cases h
theorem map_some {α β : Type} {f : α → β} {o : Option α} {b : β} (h : o.map f = some b) : ∃ a, o = some a ∧ b = f a := by
  cases o with
  | none => cases h
  | some a => exact ⟨a, rfl, (Option.some.inj h).symm⟩
theorem step_t (ih : Snd T G N n) (ok : XOk T G N sc X W) {e : Expr} {m : TM} (h : compT T G N (n + 1) sc e = some m) : PT X e (qT X W m) := by
  unfold compT at h
  split at h
  · split at h
    · obtain ⟨t, h1, rfl⟩ := map_some h
      exact t_not (ih.t _ _ _ _ _ ok h1)
    · cases h
  · exact (ih.bt _ _ _ _ _ _ _ ok h).pt
  · cases h
  · obtain ⟨t, h1, rfl⟩ := map_some h
    exact (ih.c _ _ _ _ _ _ _ _ ok h1).2
  · rename_i n1 n2 n3 n4
    obtain ⟨t, h1, rfl⟩ := map_some h
    refine t_plain ?_ (ih.e _ _ _ _ _ ok h1)
    cases e with
    | UnaryOp op x y => exact absurd rfl (n1 _ _ _)
    | BoolOp op x y => exact absurd rfl (n2 _ _ _)
    | IfExp x y z w => exact absurd rfl (n3 _ _ _ _)
    | Compare x y z w => exact absurd rfl (n4 _ _ _ _)
    | _ => rfl
theorem step_bt (ih : Snd T G N n) (ok : XOk T G N sc X W) {op : BoolOp} {vs : List Expr} {pos : Pos} {m : TM} (h : compBT T G N (n + 1) sc op vs = some m) : PW X (.BoolOp op vs pos) (qT X W m) := by
  unfold compBT at h
  split at h
  · cases op with
    | And => exact pw_and1 (ih.t _ _ _ _ _ ok h)
    | Or => exact pw_or1 (ih.t _ _ _ _ _ ok h)
  · split at h
    · rename_i h1 h2
      cases h
      cases op with
      | And => exact t_and (ih.t _ _ _ _ _ ok h1) (ih.bt _ _ _ _ _ _ _ ok h2)
      | Or => exact t_or (ih.t _ _ _ _ _ ok h1) (ih.bt _ _ _ _ _ _ _ ok h2)
    · cases h
  · cases h
theorem step_f (ih : Snd T G N n) (ok : XOk T G N sc X W) {es : List Expr} {m : TM} (h : compIf T G N (n + 1) sc es = some m) : PTs X es (qT X W m) := by
  unfold compIf at h
  split at h
  · cases h
    refine ⟨fun pins s σ H Q I ⟨ρ, h, η, at_, q⟩ => pts_nil.run pins s σ H Q I (q ρ H .refl at_.heap)⟩
  · exact pts_one (ih.t _ _ _ _ _ ok h)
  · cases h
theorem step_i (ih : Snd T G N n) (ok : XOk T G N sc X W) {tg it : Expr} {mi : Env → M Itr} {pr : Bool} (h : compI T G N (n + 1) sc it = some (mi, pr)) (ht : pr = true → ∃ ts k p, tg = .Tuple ts k p) : PI X tg it (qI X W pr mi) := by
  have plain : ∀ {e : Expr}, (compE T G N n sc e).map (fun m => (itV m, false)) = some (mi, pr) → PI X tg e (qI X W pr mi) := fun {e} h => by
    obtain ⟨m, h1, h2⟩ := map_some h
    cases h2
    exact i_val (ih.e _ _ _ _ _ ok h1)
  unfold compI at h
  split at h
  · split at h
    · rename_i c
      obtain ⟨c1, c2⟩ := Bool.and_eq_true_iff.mp c
      have c2 := of_decide_eq_true c2
      subst c2
      have hm := ok.facts.blt "range" (by decide)
      split at h
      · split at h
        · rename_i h1
          cases h
          exact i_r1 (ok.gl _ c1) hm (nst h1) (a_cons (nst h1) (ih.e _ _ _ _ _ ok h1) a_nil)
        · cases h
      · split at h
        · rename_i h1 h2
          cases h
          exact i_r2 (ok.gl _ c1) hm (nst h1) (nst h2) (a_cons (nst h1) (ih.e _ _ _ _ _ ok h1) (a_cons (nst h2) (ih.e _ _ _ _ _ ok h2) a_nil))
        · cases h
      · cases h
    · split at h
      · rename_i c
        obtain ⟨c1, c2⟩ := Bool.and_eq_true_iff.mp c
        have c2 := of_decide_eq_true c2
        subst c2
        have hm := ok.facts.blt "enumerate" (by decide)
        split at h
        · split at h
          · rename_i h1
            cases h
            obtain ⟨ts, k, p, rfl⟩ := ht rfl
            exact i_en (ok.gl _ c1) hm (nst h1) (a_cons (nst h1) (ih.e _ _ _ _ _ ok h1) a_nil)
          · cases h
        · cases h
      · exact plain h
  · exact plain h
end
end
end MP
/-! MPn: the compiler keeps what it promises: all expressions. -/
namespace MP
open PySem L2

section
variable {T : Tab} {G : Gm} {N : List Str} {X : Cx} {W : WX} {n : Nat} {sc : Scope} {e : Expr} {m : EM}
theorem fold_none {es : List Expr} {x : Value} {env : PySem.Env} (h : ∀ elts k p, e ≠ .Set elts k p) : foldedSetIterable e env x = pure x := by
  cases e <;> first | rfl | exact absurd rfl (h _ _ _)
theorem compI_noset {it : Expr} {r : (Env → M Itr) × Bool} (h : compI T G N n sc it = some r) : ∀ elts k p, it ≠ .Set elts k p := by
  intro elts k p z
  subst z
  cases n with
  | zero => cases h
  | succ n =>
    unfold compI at h
    cases n <;> cases h
theorem step_lc (ih : Snd T G N n) (ok : XOk T G N sc X W) {elt tg it : Expr} {ifs : List Expr} {csc : Scope} {pos : Pos} {mi : Env → M Itr} {pr : Bool} {g : Tg} {mt : TM} {me : EM}
    (h1 : compI T G N n sc it = some (mi, pr)) (h2 : tgOf N csc tg = some g) (h3 : compIf T G N n csc ifs = some mt) (h4 : compE T G N n csc elt = some me)
    (hc : ((!pr || g.isMany) && L2.blkC N sc csc (scopeOwn N csc) && (scopeOwn N csc).all (fun p => g.slots.contains p.2) && g.slots.all (fun i => (scopeOwn N csc).any (fun p => p.2 == i))) = true) :
    (∀ {y : Str} {py spos : Pos} {i : Nat} {E : XK}, W = WE E → X.N[i]? = some y → X.env.scope.names.lookup y = some .local → (py.line == pos.line) = true → (csc.names.any fun (n, k) => n == y && (k == .local || k == .cell)) = false → PS X (.Assign [.Name y py] (.ListComp elt [⟨tg, it, ifs, 0⟩] csc pos) spos) (qS X E (sTg (.one i) (xLc mi g mt me)))) ∧
    PE X (.ListComp elt [⟨tg, it, ifs, 0⟩] csc pos) (qE X W (xLc mi g mt me)) := by
  simp only [Bool.and_eq_true, List.all_eq_true, List.any_eq_true] at hc
  obtain ⟨⟨⟨c1, c2⟩, c3⟩, c4⟩ := hc
  have hN : X.N.Nodup := by rw [ok.hN]; exact ok.nd
  have B : BlkOk X.N X.env.scope csc (scopeOwn N csc) := by rw [ok.hN]; exact ok.blk _ _ c2
  have hs1 : ∀ v ∈ (scopeOwn N csc).map (·.2), v ∈ g.slots := fun v hv => by
    obtain ⟨p, hp, rfl⟩ := List.mem_map.mp hv
    simpa using c3 p hp
  have hs2 : ∀ v ∈ g.slots, v ∈ (scopeOwn N csc).map (·.2) := fun v hv => by
    obtain ⟨p, hp, q⟩ := c4 v hv
    exact List.mem_map.mpr ⟨p, hp, by simpa using q⟩
  have tup : pr = true → ∃ ts k p, tg = .Tuple ts k p := fun z => by
    subst z
    cases g with
    | one i => simp [Tg.isMany] at c1
    | many is => exact tg_tup h2
  have hi := ih.i _ _ _ tg _ _ _ ok h1 tup
  have blk := fun s H C cl fp => xok_blk ok c2 s H C cl fp
  have hfs : ∀ x, foldedSetIterable it X.env x = pure x := fun x => fold_none (es := []) (compI_noset h1)
  have pg : ∀ (s : Shared) (H : Hp) (C : Addr) (cl : List (Str × Addr)) (fp : List Addr), PG (X.blk s H csc (compEnvC csc cl C X.env) fp) tg (qG X pr g) := fun s H C cl fp => g_tg (pr := pr) (gok (blk s H C cl fp)) h2 c1
  have pt : ∀ (s : Shared) (H : Hp) (C : Addr) (cl : List (Str × Addr)) (fp : List Addr), PTs (X.blk s H csc (compEnvC csc cl C X.env) fp) ifs (qT X W0 mt) := fun s H C cl fp => ih.f _ _ _ _ _ (blk s H C cl fp) h3
  have pe : ∀ (s : Shared) (H : Hp) (C : Addr) (cl : List (Str × Addr)) (fp : List Addr), PE (X.blk s H csc (compEnvC csc cl C X.env) fp) elt (qE X W0 me) := fun s H C cl fp => ih.e _ _ _ _ _ (blk s H C cl fp) h4
  refine ⟨fun {y py spos i E} hW hy hyl hl ha => ?_, ?_⟩
  · subst hW
    refine (ps_setLc ok.calm hN hy hyl (sw_true ok.kind hyl hl ha) hi B pg pt pe hfs).impU fun D σ H q => ?_
    have q2 := i_tg D σ H q
    obtain ⟨ρ, h, η, at_, q3⟩ := q2
    refine i_lc hs1 hs2 (fun _ _ _ q => q) σ H _ ⟨ρ, h, η, at_, q3.mono (fun u ρ1 H1 x r v rv => ?_) (fun _ _ _ z => z)⟩
    have q5 := r v rv
    obtain ⟨ρ, h, η, η', u, at_, rt, e1, q⟩ := q5
    have e2 : η.set i (some u) = η' := by
      have := congrArg (fun r => match r with | Res.ok a _ => a | _ => []) e1
      exact this
    subst e2
    exact q _ (at_.env.set i rt) (by rw [List.length_set]) fun j hj => by
      rw [List.getElem?_set_ne (fun z => hj (by rw [← z]; exact List.mem_cons_self))]
  · exact (pe_lc ok.calm hN hi B pg pt pe hfs).impU (i_lc hs1 hs2 fun _ _ _ q => q)
theorem step_dc (ih : Snd T G N n) (ok : XOk T G N sc X W) {kx elt tg it : Expr} {ifs : List Expr} {csc : Scope} {pos : Pos} {mi : Env → M Itr} {pr : Bool} {g : Tg} {mt : TM} {mk me : EM}
    (h1 : compI T G N n sc it = some (mi, pr)) (h2 : tgOf N csc tg = some g) (h3 : compIf T G N n csc ifs = some mt) (h5 : compE T G N n csc kx = some mk) (h4 : compE T G N n csc elt = some me)
    (hc : ((!pr || g.isMany) && L2.blkC N sc csc (scopeOwn N csc) && (scopeOwn N csc).all (fun p => g.slots.contains p.2) && g.slots.all (fun i => (scopeOwn N csc).any (fun p => p.2 == i))) = true) :
    PE X (.DictComp kx elt [⟨tg, it, ifs, 0⟩] csc pos) (qE X W (xDc mi g mt mk me)) := by
  simp only [Bool.and_eq_true, List.all_eq_true, List.any_eq_true] at hc
  obtain ⟨⟨⟨c1, c2⟩, c3⟩, c4⟩ := hc
  have hN : X.N.Nodup := by rw [ok.hN]; exact ok.nd
  have B : BlkOk X.N X.env.scope csc (scopeOwn N csc) := by rw [ok.hN]; exact ok.blk _ _ c2
  have hs1 : ∀ v ∈ (scopeOwn N csc).map (·.2), v ∈ g.slots := fun v hv => by
    obtain ⟨p, hp, rfl⟩ := List.mem_map.mp hv
    simpa using c3 p hp
  have hs2 : ∀ v ∈ g.slots, v ∈ (scopeOwn N csc).map (·.2) := fun v hv => by
    obtain ⟨p, hp, q⟩ := c4 v hv
    exact List.mem_map.mpr ⟨p, hp, by simpa using q⟩
  have tup : pr = true → ∃ ts k p, tg = .Tuple ts k p := fun z => by
    subst z
    cases g with
    | one i => simp [Tg.isMany] at c1
    | many is => exact tg_tup h2
  have hi := ih.i _ _ _ tg _ _ _ ok h1 tup
  have blk := fun s H C cl fp => xok_blk ok c2 s H C cl fp
  have hfs : ∀ x, foldedSetIterable it X.env x = pure x := fun x => fold_none (es := []) (compI_noset h1)
  have pg : ∀ (s : Shared) (H : Hp) (C : Addr) (cl : List (Str × Addr)) (fp : List Addr), PG (X.blk s H csc (compEnvC csc cl C X.env) fp) tg (qG X pr g) := fun s H C cl fp => g_tg (pr := pr) (gok (blk s H C cl fp)) h2 c1
  have pt : ∀ (s : Shared) (H : Hp) (C : Addr) (cl : List (Str × Addr)) (fp : List Addr), PTs (X.blk s H csc (compEnvC csc cl C X.env) fp) ifs (qT X W0 mt) := fun s H C cl fp => ih.f _ _ _ _ _ (blk s H C cl fp) h3
  have pe : ∀ (s : Shared) (H : Hp) (C : Addr) (cl : List (Str × Addr)) (fp : List Addr), PE (X.blk s H csc (compEnvC csc cl C X.env) fp) elt (qE X W0 me) := fun s H C cl fp => ih.e _ _ _ _ _ (blk s H C cl fp) h4
  have pk : ∀ (s : Shared) (H : Hp) (C : Addr) (cl : List (Str × Addr)) (fp : List Addr), PE (X.blk s H csc (compEnvC csc cl C X.env) fp) kx (qE X W0 mk) := fun s H C cl fp => ih.e _ _ _ _ _ (blk s H C cl fp) h5
  exact (pe_dc ok.calm hN hi B pg pt pk pe hfs).impU (i_dc hs1 hs2 fun _ _ _ q => q)
theorem step_call (ih : Snd T G N n) (ok : XOk T G N sc X W) {f : Expr} {es : List Expr} {ks : List Keyword} {pos : Pos} (h : compE T G N (n + 1) sc (.Call f es ks pos) = some m) : PE X (.Call f es ks pos) (qE X W m) := by
  unfold compE at h
  simp only at h
  split at h
  · split at h
    · rename_i x p
      split at h
      · rename_i c
        obtain ⟨c1, c2⟩ := Bool.and_eq_true_iff.mp c
        have hG := ok.gl x c1
        have hD := okN_d c2
        split at h
        · rename_i np ds hf
          split at h
          · rename_i ms d h1 h2
            cases h
            obtain ⟨q1, q2, q3⟩ := ih.es _ _ _ _ _ ok h1
            obtain ⟨⟨j, rfl⟩, hn⟩ := dsFor_of h2
            obtain ⟨k, fa, fd, ps, F, hr, hm, hk, hd⟩ := ok.facts.fn _ _ _ hf
            exact e_fn (nil_of q2) q3 q1 hD hG F hr hm hk (hd j) (by rw [q2]; exact hn) ok.tk
          · cases h
        · split at h
          · rename_i np ds hf
            split at h
            · rename_i ms d h1 h2
              cases h
              obtain ⟨q1, q2, q3⟩ := ih.es _ _ _ _ _ ok h1
              obtain ⟨⟨j, rfl⟩, hn⟩ := dsFor_of h2
              obtain ⟨k, fa, C, fd, ps, F, hr, hm, hk, hd⟩ := ok.facts.cls _ _ _ hf
              exact e_mk (nil_of q2) q3 q1 hD hG F hr hm hk (hd j) (by rw [q2]; exact hn) ok.tk
            · cases h
          · split at h
            · rename_i hx
              subst hx
              have hmI := ok.facts.blt "isinstance" (by decide)
              split at h
              · rename_i a c
                split at h
                · rename_i cs ma h1 h2
                  cases h
                  unfold clsOf at h1
                  split at h1
                  · split at h1
                    · rename_i cc
                      cases h1
                      simp only [Bool.and_eq_true] at cc
                      obtain ⟨⟨k1, k2⟩, k3⟩ := cc
                      obtain ⟨v, t, F⟩ := isf_of ok (by simpa using k3)
                      exact e_is1 (p2 := pos) ok.facts.icl F (ok.gl _ k1) (okN_d k2) hG hmI (nst h2) (ih.e _ _ _ _ _ ok h2)
                    · cases h1
                  · split at h1
                    · rename_i cc
                      cases h1
                      simp only [Bool.and_eq_true] at cc
                      obtain ⟨⟨⟨⟨⟨k1, k2⟩, k3⟩, k4⟩, k5⟩, k6⟩ := cc
                      obtain ⟨v, t, F⟩ := isf_of ok (by simpa using k3)
                      obtain ⟨v2, t2, F2⟩ := isf_of ok (by simpa using k6)
                      exact e_is2 ok.facts.icl F F2 (ok.gl _ k1) (okN_d k2) (ok.gl _ k4) (okN_d k5) hG hmI (nst h2) (ih.e _ _ _ _ _ ok h2)
                    · cases h1
                  · cases h1
                · cases h
              · cases h
            · split at h
              · rename_i g ms h1 h2
                split at h
                · cases h
                · rename_i hne
                  cases h
                  obtain ⟨q1, q2, q3⟩ := ih.es _ _ _ _ _ ok h2
                  cases es with
                  | nil => exact absurd rfl hne
                  | cons a es => exact blt_ok ok h1 c1 c2 q1 q3
              · cases h
      · cases h
    · rename_i o mm apos
      split at h
      · rename_i c
        simp only [Bool.and_eq_true, decide_eq_true_eq] at c
        obtain ⟨⟨c1, c2⟩, c3⟩ := c
        split at h
        · rename_i mo ms h1 h2
          obtain ⟨q1, q2, q3⟩ := ih.es _ _ _ _ _ ok h2
          split at h
          · rename_i cs np ds hf
            obtain ⟨d, hd, rfl⟩ := map_some h
            obtain ⟨⟨j, rfl⟩, hn⟩ := dsFor_of hd
            refine e_mth c2 c1 c3 (nil_of q2) q3 (ih.e _ _ _ _ _ ok h1) q1 (fun c hc => ?_) ok.tk
            obtain ⟨k, f, C, fd, ps, F, hr, hm, cl, me, hd2⟩ := ok.facts.mth _ _ _ _ hf c hc
            exact ⟨k, np, f, C, fd, ps, F, hr, hm, cl, me, hd2 j, by rw [q2]; exact hn⟩
          · cases h
            exact e_mth c2 c1 c3 (nil_of q2) q3 (ih.e _ _ _ _ _ ok h1) q1 (fun c hc => absurd hc (by simp)) ok.tk
        · cases h
      · cases h
    · cases h
  · cases h
theorem step_e (ih : Snd T G N n) (ok : XOk T G N sc X W) (h : compE T G N (n + 1) sc e = some m) : PE X e (qE X W m) := by
  cases e with
  | Call f es ks pos => exact step_call ih ok h
  | ListComp elt gs csc pos =>
    unfold compE at h
    simp only at h
    split at h
    · split at h
      · split at h
        · rename_i h1 h2 h3 h4 hc
          cases h
          exact (step_lc ih ok h1 h2 h3 h4 hc).2
        · cases h
      · cases h
    · cases h
  | DictComp kx elt gs csc pos =>
    unfold compE at h
    simp only at h
    split at h
    · split at h
      · split at h
        · rename_i h1 h2 h3 h5 h4 hc
          cases h
          exact step_dc ih ok h1 h2 h3 h5 h4 hc
        · cases h
      · cases h
    · cases h
  | Constant c k pos =>
    obtain ⟨u, h1, rfl⟩ := map_some (show (constU c).map xC = some m from h)
    exact e_con h1
  | Name x pos =>
    unfold compE at h
    simp only at h
    split at h
    · rename_i h1
      cases h
      exact e_var ok.hN ok.vis h1
    · split at h
      · rename_i c
        obtain ⟨c1, c2⟩ := Bool.and_eq_true_iff.mp c
        obtain ⟨u, h1, rfl⟩ := map_some h
        obtain ⟨v, t, k1, k2, k3⟩ := ok.facts.con _ _ h1
        exact e_glob (ok.gl x c1) k1 k2 k3 (okN_d c2)
      · cases h
  | BinOp a op b pos =>
    unfold compE at h
    simp only at h
    split at h
    · rename_i h1 h2 h3
      cases h
      exact e_op (op_rule h1) (ih.e _ _ _ _ _ ok h2) (ih.e _ _ _ _ _ ok h3)
    · cases h
  | UnaryOp op a pos =>
    unfold compE at h
    simp only at h
    split at h
    · rename_i h1
      cases h
      exact e_neg (ih.e _ _ _ _ _ ok h1)
    · rename_i h1
      cases h
      exact e_not (ih.e _ _ _ _ _ ok h1)
    · cases h
  | BoolOp op vs pos => exact ih.bv _ _ _ _ _ _ _ ok h
  | Compare a ops cs pos => exact (ih.c _ _ _ _ _ _ _ _ ok h).1
  | IfExp t a b pos =>
    unfold compE at h
    simp only at h
    split at h
    · rename_i h1 h2 h3
      cases h
      exact e_if (ih.t _ _ _ _ _ ok h1) (ih.e _ _ _ _ _ ok h2) (ih.e _ _ _ _ _ ok h3)
    · cases h
  | List es pos =>
    unfold compE at h
    simp only at h
    split at h
    · rename_i c
      obtain ⟨ms, h1, rfl⟩ := map_some h
      obtain ⟨q1, q2, q3⟩ := ih.es _ _ _ _ _ ok h1
      exact e_lst (by rw [q2]; exact c) q1
    · cases h
  | Tuple es k pos =>
    unfold compE at h
    simp only at h
    split at h
    · rename_i c
      obtain ⟨ms, h1, rfl⟩ := map_some h
      obtain ⟨q1, q2, q3⟩ := ih.es _ _ _ _ _ ok h1
      exact e_tup (by rw [q2]; exact c) q1
    · cases h
  | Attribute o f pos =>
    unfold compE at h
    simp only at h
    split at h
    · rename_i h1 h2
      split at h
      · rename_i c
        cases h
        exact e_fld (ok.facts.fld _ _ h1) c (ih.e _ _ _ _ _ ok h2)
      · cases h
    · cases h
  | Subscript a i pos =>
    unfold compE at h
    simp only at h
    split at h
    · split at h
      · rename_i h1 h2 h3
        cases h
        exact e_sl (ih.e _ _ _ _ _ ok h1) (ih.o _ _ _ _ _ ok h2) (ih.o _ _ _ _ _ ok h3)
      · cases h
    · obtain ⟨ma, h1, rfl⟩ := map_some h
      exact e_rev (ih.e _ _ _ _ _ ok h1)
    · cases h
    · split at h
      · rename_i h1 h2
        cases h
        exact e_get (by have := ok.units; omega) (nsl h2) (ih.e _ _ _ _ _ ok h1) (ih.e _ _ _ _ _ ok h2)
      · cases h
  | _ => cases h
end
theorem snd (T : Tab) (G : Gm) (N : List Str) : ∀ n, Snd T G N n
  | 0 => by
    refine ⟨?_, ?_, ?_, ?_, ?_, ?_, ?_, ?_, ?_, ?_⟩
    · intro _ _ _ _ _ _ h; cases h
    · intro _ _ _ _ _ _ h; cases h
    · intro _ _ _ _ _ _ _ _ _ h; cases h
    · intro _ _ _ _ _ _ _ _ h; cases h
    · intro _ _ _ _ _ _ h; cases h
    · intro _ _ _ _ _ _ h; cases h
    · intro _ _ _ _ _ _ h; cases h
    · intro _ _ _ _ _ _ _ _ h; cases h
    · intro _ _ _ _ _ _ h; cases h
    · intro _ _ _ _ _ _ _ _ h; cases h
  | n + 1 => by
    have ih := snd T G N n
    exact ⟨fun _ _ _ _ _ ok h => step_e ih ok h, fun _ _ _ _ _ ok h => step_q ih ok h, fun _ _ _ _ _ _ _ _ ok h => step_c ih ok h, fun _ _ _ _ _ _ _ ok h => step_bv ih ok h, fun _ _ _ _ _ ok h => step_es ih ok h, fun _ _ _ _ _ ok h => step_o ih ok h,
      fun _ _ _ _ _ ok h => step_t ih ok h, fun _ _ _ _ _ _ _ ok h => step_bt ih ok h, fun _ _ _ _ _ ok h => step_f ih ok h, fun _ _ _ _ _ _ _ ok h ht => step_i ih ok h ht⟩
end MP
/-! MPv: a pair taken apart where a name is a cell. -/
namespace MP
open PySem L2
theorem ite_none {α : Type} {c : Prop} [Decidable c] {m : Sem (Option α)} (h : m = pure none) : (if c then pure none else m) = pure none := by
  by_cases e : c
  · rw [if_pos e]
  · rw [if_neg e, h]
theorem ss_tupC {X : Cx} {p : Pos} {sc : Scope} {ts es : List Expr} {k k2 : Nat} {p2 : Pos} (hs : X.env.scope = sc) (e : tupC sc ts es = true) : swappedStores [.Tuple ts k p] (.Tuple es k2 p2) X.env = pure none := by
  unfold tupC at e
  split at e
  · rename_i x px y py a b
    simp only [Bool.and_eq_true, Bool.or_eq_true, decide_eq_true_eq] at e
    obtain ⟨⟨c1, c2⟩, c3⟩ := e
    have k1 : X.env.kindOf x = sc.names.lookup x := by unfold Env.kindOf; rw [hs]
    have k2 : X.env.kindOf y = sc.names.lookup y := by unfold Env.kindOf; rw [hs]
    unfold swappedStores
    refine ite_none (ite_none ?_)
    simp only [List.length_cons, List.length_nil, List.filterMap_cons, List.filterMap_nil, k1, k2]
    refine if_pos ?_
    rcases c3 with c3 | c3
    · rw [c3]
      cases sc.names.lookup y with
      | none => rfl
      | some v => cases v <;> first | rfl | (simp; split <;> exact .inl (by simp))
    · rw [c3]
      cases sc.names.lookup x with
      | none => rfl
      | some v => cases v <;> first | rfl | (simp; split <;> exact .inl (by simp))
  · cases e
end MP
/-! MPo: statements, defs, the program. -/
namespace MP
open PySem L2

section
variable {T : Tab} {G : Gm} {N : List Str} {X : Cx} {E : XK} {n : Nat} {sc : Scope}
structure SOk (T : Tab) (G : Gm) (N : List Str) (sc : Scope) (X : Cx) (E : XK) : Prop where
  x : XOk T G N sc X (WE E)
  sc_ : X.env.scope = sc
  own : PassesOwn (model X.prog X.w) X.A X.env X.xe
theorem sw_of {tg : Option Expr} {e : Expr} {env : PySem.Env} {l : Nat} (h : noComp e = true) : swapsWith e tg l env = pure false := sw_none h _ _ _
theorem sws {t e : Expr} {env : PySem.Env} {l : Nat} (h : swapsWith e (some t) l env = pure false) : swapsWithSole [t] e l env = pure false := by
  unfold swapsWithSole
  exact h
theorem step_s (ihs : ∀ ss, PSs X ss (qS X E (compSs T G N n sc ss))) (ok : SOk T G N sc X E) {s : Stmt} {m : SM} (h : compS T G N (n + 1) sc s = some m) : PS X s (qS X E m) := by
  have ih := snd T G N n
  have hk : sc.kind = .function := by rw [← ok.sc_]; exact ok.x.kind
  cases s with
  | Pass p => cases h; exact s_pass
  | Break p => cases h; exact s_brk
  | Continue p => cases h; exact s_cont
  | Return v p =>
    unfold compS at h
    simp only at h
    split at h
    · cases h; exact s_retN
    · obtain ⟨me, h1, rfl⟩ := map_some h
      exact s_ret (ih.e _ _ _ _ _ ok.x h1)
  | Expr e p =>
    unfold compS at h
    simp only at h
    split at h
    · cases h; exact s_doc
    · split at h
      · rename_i c
        obtain ⟨me, h1, rfl⟩ := map_some h
        exact s_exp c (ih.e _ _ _ _ _ ok.x h1)
      · cases h
  | If c a b p =>
    unfold compS at h
    simp only at h
    split at h
    · rename_i h1
      cases h
      exact s_if (ih.t _ _ _ _ _ ok.x h1) (ihs a) (ihs b)
    · cases h
  | While c b es p =>
    unfold compS at h
    simp only at h
    split at h
    · split at h
      · rename_i h1
        cases h
        exact s_while ok.own (ih.t _ _ _ _ _ ok.x h1) (ihs b)
      · cases h
    · cases h
  | For tg it b es p =>
    unfold compS at h
    simp only at h
    split at h
    · split at h
      · rename_i h1 h2
        split at h
        · rename_i c
          cases h
          rename_i pr g
          refine s_for ok.own ok.x.calm (ih.i _ _ _ _ _ _ _ ok.x h1 fun z => ?_) (g_tg (gok ok.x) h2 c) (ihs b) fun x => fold_none (es := []) (compI_noset h1)
          subst z
          cases g with
          | one i => simp [Tg.isMany] at c
          | many is => exact tg_tup h2
        · cases h
      · cases h
    · cases h
  | Assign ts e pos =>
    unfold compS at h
    simp only at h
    split at h
    · split at h
      · cases h
      · split at h
        · rename_i h1 h2 h3
          cases h
          exact s_put (nsl h3) (ih.e _ _ _ _ _ ok.x h2) (ih.e _ _ _ _ _ ok.x h3) (ih.e _ _ _ _ _ ok.x h1)
        · cases h
    · split at h
      · rename_i h1 h2 h3
        cases h
        exact s_fld (ok.x.facts.fld _ _ h1) (ih.e _ _ _ _ _ ok.x h3) (ih.e _ _ _ _ _ ok.x h2)
      · cases h
    · split at h
      · split at h
        · rename_i h1 h2
          split at h
          · rename_i h3 h4
            cases h
            obtain ⟨q1, q2, q3⟩ := ih.es _ _ _ _ _ ok.x h2
            obtain ⟨px, py, a, b, _, e2, _⟩ := par_stores (X := X) (p := ⟨0, 0, 0, 0⟩) (k := 0) (k2 := 0) (p2 := ⟨0, 0, 0, 0⟩) ok.sc_ hk h1
            exact s_par ok.sc_ hk ok.x.calm ok.x.hN ok.x.nd h1 h3 h4 (by rw [q2, e2]; rfl) q1
          · cases h
        · split at h
          · rename_i h3
            split at h
            · rename_i h1 h2
              cases h
              exact s_tg (g_many (gok ok.x) h1) (ih.e _ _ _ _ _ ok.x h2) (sw_tup _) (ss_tupC ok.sc_ h3) rfl
            · cases h
          · cases h
        · cases h
      · rename_i hnt
        split at h
        · rename_i h1 h2
          cases h
          exact s_tg (g_many (gok ok.x) h1) (ih.e _ _ _ _ _ ok.x h2) (sw_tup _) (ss_tup fun es k p z => hnt _ _ _ z) rfl
        · cases h
    · split at h
      · rename_i h1 h2
        split at h
        · rename_i ts0 x p o1 o2 i me e0 elt gs csc q
          split at h
          · rename_i c
            cases h
            by_cases hl : (p.line == q.line) = false
            · exact s_tg (g_one (gok ok.x) h1) (ih.e _ _ _ _ _ ok.x h2) (sws (sw_lc hl _)) ss_name rfl
            by_cases hcell : sc.names.lookup x = some .cell
            · exact s_tg (g_one (gok ok.x) h1) (ih.e _ _ _ _ _ ok.x h2) (sws (sw_cell (by rw [ok.sc_]; exact hcell) _)) ss_name rfl
            · have c := c.resolve_right fun z => z.elim hl hcell
              simp only [Bool.and_eq_true, decide_eq_true_eq] at c
              obtain ⟨⟨k1, k2⟩, k3⟩ := c
              cases n with
              | zero => cases h2
              | succ n =>
                unfold compE at h2
                simp only at h2
                split at h2
                · split at h2
                  · split at h2
                    · rename_i g1 g2 g3 g4 hc
                      cases h2
                      exact (step_lc (snd T G N n) ok.x g1 g2 g3 g4 hc).1 rfl (by rw [ok.x.hN]; exact (slotL_at h1).2) (by rw [ok.sc_]; exact k1) k2 (by simpa using k3)
                    · cases h2
                  · cases h2
                · cases h2
          · cases h
        · rename_i ts0 x p o1 o2 i me e0 kx elt gs csc q
          split at h
          · rename_i c
            cases h
            rcases c with hl | hcell
            · exact s_tg (g_one (gok ok.x) h1) (ih.e _ _ _ _ _ ok.x h2) (sws (sw_dc hl _)) ss_name rfl
            · exact s_tg (g_one (gok ok.x) h1) (ih.e _ _ _ _ _ ok.x h2) (sws (sw_cellD (by rw [ok.sc_]; exact hcell) _)) ss_name rfl
          · cases h
        · split at h
          · rename_i c
            cases h
            exact s_tg (g_one (gok ok.x) h1) (ih.e _ _ _ _ _ ok.x h2) (sws (sw_of c)) ss_name rfl
          · cases h
      · cases h
    · cases h
  | AugAssign tg op e pos =>
    unfold compS at h
    simp only at h
    split at h
    · split at h
      · rename_i h1 h2
        cases h
        exact s_aug (gok ok.x) h1 (ih.e _ _ _ _ _ ok.x h2)
      · cases h
    · split at h
      · rename_i h1 h2 h3
        cases h
        exact s_faug (ok.x.facts.fld _ _ h1) (ih.e _ _ _ _ _ ok.x h3) (ih.e _ _ _ _ _ ok.x h2)
      · cases h
    · cases h
  | _ => cases h
theorem snds (ok : SOk T G N sc X E) : ∀ n ss, PSs X ss (qS X E (compSs T G N n sc ss))
  | 0, ss => ss_bad
  | n + 1, ss => by
    have one : ∀ s, PS X s (qS X E ((compS T G N n sc s).getD sBad)) := fun s => by
      cases n with
      | zero => exact s_bad
      | succ n =>
        cases h : compS T G N (n + 1) sc s with
        | none => exact s_bad
        | some m => exact step_s (snds ok n) ok h
    unfold compSs
    split
    · exact ss_nil
    · exact (pss_one (one _))
    · exact ss_cons (one _) (snds ok n _)
/-- the program's facts at a level -/
structure FactsAt (T : Tab) (G : Gm) (P : Program) (w : World) (K : PySem.W.Frag) (mg : Str → Option Value) (base : Heap) (k : Nat) : Prop where
  all : ∀ A, Room k A → Facts T G P w K mg base A
section
variable {P : Program} {w : World} {K : PySem.W.Frag} {mg : Str → Option Value} {base : Heap}
/-- what K holds of a def -/
inductive DefK (K : PySem.W.Frag) (st : Stmt) (f : Addr) : FuncData → Prop where
  | mk {nm qual : Str} {dV kV d1 d2 cd ct oc : Value} {an od : Option Addr} {sl : Array (Option Value)} (look : K.lookup f = some ⟨oc, od, .func (PySem.W.fnOf nm qual (defArgs st) (defBody st) (defScope st) dV kV d1 d2 an cd ct), sl⟩) (code : PySem.W.codeIn K cd qual = true) : DefK K st f (PySem.W.fnOf nm qual (defArgs st) (defBody st) (defScope st) dV kV d1 d2 an cd ct)
theorem fn_ok {st : Stmt} {f : Addr} {fd : FuncData} {ps : List Str} {k : Nat} (F : DefK K st f fd) (S : FnScope N ps (defScope st)) (fa : FactsAt T G P w K mg base k) (m : Nat) :
    FnOk P w K mg base (L2.CX P w) (k + 1) f fd ps (spU K mg ps.length (fnM N.length ps.length (compSs T G N m (defScope st) (defBody st)))) := by
  obtain ⟨lk, hcd⟩ := F
  rename_i nm qual c1 c2 c3 c4 c8 c5 c6 c7 c9 c10
  refine fn_of lk hcd S (fun vs H Q E ⟨ρ, h, us, _, r, hl, _⟩ => by rw [← r.len]; exact hl) fun A outer s H vs Q E hr hsp => ?_
  have ok : SOk T G N (defScope st) (cxOf (L2.CX P w) P w K mg base N qual (defScope st) f c8 A outer s H E) E := by
    refine ⟨⟨rfl, S.nd, fun x hv => ?_, fun x hg => ?_, fun x hl => ?_, fun csc own hb => blkOk_by hb, S.kind, rfl, by have := hr.un; show (A.deeper (PyProof.Rows.envOfC qual (defScope st) s.heap.objs.size f c8)).units + 65 < cLine; omega, L2.takes_of rfl rfl rfl rfl, fa.all _ hr⟩, rfl, passes_of rfl⟩
    · show Vis (defScope st) x
      unfold visB at hv
      split at hv
      · rename_i e; exact .inl e
      · rename_i e; exact .inr (.inl e)
      · rename_i e; exact .inr (.inr e)
      · cases hv
    · show (defScope st).names.lookup x = some .globalImplicit
      unfold glB at hg
      split at hg
      · rename_i e; exact e
      · cases hg
    · show Loc (defScope st) x ∧ (true = true ∨ _)
      unfold locB at hl
      split at hl
      · rename_i e; exact ⟨.inl e, .inl rfl⟩
      · rename_i e; exact ⟨.inr e, .inl rfl⟩
      · cases hl
  refine ⟨_, snds ok m _, ?_⟩
  obtain ⟨ρ, h, us, rep, rus, hl, p⟩ := hsp
  have hvl : us.length = vs.length := rus.len
  unfold fnM at p
  rw [if_pos hl] at p
  refine ⟨ρ, h, us.map some ++ List.replicate (N.length - ps.length) none, ⟨rep, ?_, fun i u q => ?_⟩, p.bind fun r ρ1 h1 H1 x1 rep1 p1 => ?_⟩
  · unfold L2.start
    rw [List.length_append, List.length_append, List.length_map, List.length_map, List.length_replicate, List.length_replicate, hvl, ← hvl, hl]
  · unfold L2.start
    by_cases hi : i < us.length
    · rw [List.getElem?_append_left (by rw [List.length_map]; exact hi), List.getElem?_map] at q
      rw [List.getElem?_append_left (by rw [List.length_map, ← hvl]; exact hi), List.getElem?_map]
      cases e2 : us[i]? with
      | none => rw [e2] at q; cases q
      | some z =>
        rw [e2] at q
        have q : some (some z) = some (some u) := q
        cases q
        obtain ⟨v, g1, g2⟩ := rus.get e2
        exact ⟨v, by rw [g1]; rfl, g2⟩
    · rw [List.getElem?_append_right (by rw [List.length_map]; omega)] at q
      have := List.mem_of_getElem? q
      rw [List.mem_replicate] at this
      cases this.2
  · cases r with
    | next η => exact fun σ _ => p1 ρ1 H1 .refl rep1 _ rfl
    | ret u => exact fun v rv => p1 ρ1 H1 .refl rep1 v rv
    | brk η => exact p1.elim
    | cont η => exact p1.elim
end
end
end MP
/-! MPp: the program and the law's end. -/
namespace MP
open PySem L2

structure Df where
  N : List Str
  np : Nat
  st : Stmt
def fuel : Nat := 60
noncomputable def runD (T : Tab) (G : Gm) (D : Option Df) (us : List U) : M U := match D with
  | some D => fnM D.N.length D.np (compSs T G D.N fuel (defScope D.st) (defBody D.st)) us
  | none => mbad
/-- the program by the depth of its calls -/
noncomputable def gm (T : Tab) (fs : List (Str × Df)) (ms : List ((Str × Str) × Df)) : Nat → Gm
  | 0 => ⟨fun _ _ => mbad, fun _ _ _ => mbad⟩
  | d + 1 => ⟨fun x us => runD T (gm T fs ms d) (fs.lookup x) us, fun c m us => runD T (gm T fs ms d) (ms.lookup (c, m)) us⟩
def AllF {α β : Type} (P : α → β → Prop) : List (α × β) → Prop
  | [] => True
  | p :: r => P p.1 p.2 ∧ AllF P r
theorem AllF.at {α β : Type} [BEq α] [LawfulBEq α] {P : α → β → Prop} : ∀ {l : List (α × β)}, AllF P l → ∀ x v, l.lookup x = some v → P x v
  | [], _, _, _, h => by cases h
  | (y, w) :: r, ⟨p, q⟩, x, v, h => by
    simp only [List.lookup_cons] at h
    cases e : x == y with
    | true =>
      rw [e] at h
      cases h
      rw [eq_of_beq e]
      exact p
    | false =>
      rw [e] at h
      exact AllF.at q x v h
/-- what K says of a def -/
def FnK (K : PySem.W.Frag) (D : Df) (f : Addr) (np : Nat) (ds : List U) : Prop := ∃ fd, DefK K D.st f fd ∧ FnScope D.N (D.N.take np) (defScope D.st) ∧ (D.N.take np).length = np ∧ D.np = np ∧ ∀ n, Dfl K fd (D.N.take np) (ds.drop n)
structure KF (T : Tab) (fs : List (Str × Df)) (ms : List ((Str × Str) × Df)) (K : PySem.W.Frag) (mg : Str → Option Value) : Prop where
  fn : AllF (fun x v => ∃ D f, fs.lookup x = some D ∧ FnK K D f v.1 v.2 ∧ mg x = some (.ref f) ∧ PySem.W.keepIn K (.ref f) = true) T.fns
  cls : AllF (fun x v => ∃ D f C, ms.lookup (x, ("__init__" : Str)) = some D ∧ FnK K D f (v.1 + 1) v.2 ∧ mg x = some (.ref C) ∧ Mk K C f) T.cls
  mth : AllF (fun m v => ∀ c ∈ v.1, ∃ D f C, ms.lookup (c, m) = some D ∧ FnK K D f (v.2.1 + 1) v.2.2 ∧ mg c = some (.ref C) ∧ Cls K C ∧ Meth K C m f) T.mth
  fld : AllF (fun f cs => ∀ c ∈ cs, ∃ C, mg c = some (.ref C) ∧ Cls K C ∧ NoAttr K C f) T.fld
  con : AllF (fun x u => ∃ v t, mg x = some t ∧ RelV v t ∧ ∀ ρ H, RepV K ρ H u v) T.con
  blt : ∀ x : Str, x ∈ (["len", "int", "tuple", "list", "sorted", "sum", "max", "min", "abs", "all", "any", "isinstance", "range", "enumerate", "zip"] : List Str) → mg x = none
  isc : ∀ P, ∀ c ∈ T.isc, ∃ v t, IsF P K mg T.kc c v t
  icl : InsF K mg T.kc
section
variable {T : Tab} {fs : List (Str × Df)} {ms : List ((Str × Str) × Df)} {P : Program} {w : World} {K : PySem.W.Frag} {mg : Str → Option Value} {base : Heap}
theorem fn_bad {k np : Nat} {f : Addr} {fd : FuncData} {ps : List Str} (h : ps.length = np) : FnOk P w K mg base (L2.CX P w) k f fd ps (spU K mg np (fun _ => mbad)) :=
  ⟨fun vs H Q E ⟨_, _, _, _, _, _, p⟩ => p.elim, fun _ _ _ _ _ _ _ _ _ _ _ _ _ ⟨_, _, _, _, _, _, p⟩ => p.elim⟩
theorem facts_of {G : Gm} {k : Nat} (kf : KF T fs ms K mg)
    (hf : ∀ x D f np ds, fs.lookup x = some D → FnK K D f np ds → ∃ fd ps, FnOk P w K mg base (L2.CX P w) k f fd ps (spU K mg np (G.fn x)) ∧ ∀ n, Dfl K fd ps (ds.drop n))
    (hm : ∀ c m D f np ds, ms.lookup (c, m) = some D → FnK K D f np ds → ∃ fd ps, FnOk P w K mg base (L2.CX P w) k f fd ps (spU K mg np (G.meth c m)) ∧ ∀ n, Dfl K fd ps (ds.drop n)) : FactsAt T G P w K mg base (k + 1) := by
  refine ⟨fun A hr => ⟨fun x np ds h => ?_, fun x np ds h => ?_, fun m cs np ds h c hc => ?_, fun f cs h => kf.fld.at _ _ h, fun x u h => kf.con.at _ _ h, kf.blt, fun c hc => ?_, kf.icl⟩⟩
  · obtain ⟨D, f, h1, h2, h3, h4⟩ := kf.fn.at _ _ h
    obtain ⟨fd, ps, F, hd⟩ := hf x D f np ds h1 h2
    exact ⟨k, f, fd, ps, F, hr.mono (Nat.le_succ k), h3, h4, hd⟩
  · obtain ⟨D, f, C, h1, h2, h3, h4⟩ := kf.cls.at _ _ h
    obtain ⟨fd, ps, F, hd⟩ := hm x "__init__" D f (np + 1) ds h1 h2
    exact ⟨k, f, C, fd, ps, F, hr, h3, h4, hd⟩
  · obtain ⟨D, f, C, h1, h2, h3, h4, h5⟩ := kf.mth.at _ _ h c hc
    obtain ⟨fd, ps, F, hd⟩ := hm c m D f (np + 1) ds h1 h2
    exact ⟨k, f, C, fd, ps, F, hr.mono (Nat.le_succ k), h3, h4, h5, hd⟩
  · obtain ⟨v, t, F⟩ := kf.isc P c hc
    exact ⟨v, t, F.at_, F.cv, F.rel, F.kit, F.own⟩
theorem run_ok {G : Gm} {k : Nat} {D : Df} {f : Addr} {np : Nat} {ds : List U} (fa : FactsAt T G P w K mg base k) (h : FnK K D f np ds) : ∃ fd ps, FnOk P w K mg base (L2.CX P w) (k + 1) f fd ps (spU K mg np (runD T G (some D))) ∧ ∀ n, Dfl K fd ps (ds.drop n) := by
  obtain ⟨fd, F, S, hl, hn, hd⟩ := h
  refine ⟨fd, _, ?_, hd⟩
  have q := fn_ok F S fa fuel
  rw [hl] at q
  have e : runD T G (some D) = fnM D.N.length np (compSs T G D.N fuel (defScope D.st) (defBody D.st)) := by
    rw [← hn]
    rfl
  rw [e]
  exact q
theorem facts_all (kf : KF T fs ms K mg) : ∀ d, FactsAt T (gm T fs ms d) P w K mg base (2 * d + 1)
  | 0 => facts_of (k := 0) kf (fun x D f np ds _ ⟨fd, _, _, hl, _, hd⟩ => ⟨fd, _, fn_bad hl, hd⟩) (fun c m D f np ds _ ⟨fd, _, _, hl, _, hd⟩ => ⟨fd, _, fn_bad hl, hd⟩)
  | d + 1 => by
    have ih := facts_all kf d
    refine facts_of (k := 2 * (d + 1)) kf (fun x D f np ds h1 h2 => ?_) (fun c m D f np ds h1 h2 => ?_)
    · obtain ⟨fd, ps, F, hd⟩ := run_ok ih h2
      refine ⟨fd, ps, ?_, hd⟩
      have e : (gm T fs ms (d + 1)).fn x = runD T (gm T fs ms d) (some D) := by
        funext us
        show runD T (gm T fs ms d) (fs.lookup x) us = _
        rw [h1]
      rw [e]
      exact F
    · obtain ⟨fd, ps, F, hd⟩ := run_ok ih h2
      refine ⟨fd, ps, ?_, hd⟩
      have e : (gm T fs ms (d + 1)).meth c m = runD T (gm T fs ms d) (some D) := by
        funext us
        show runD T (gm T fs ms d) (ms.lookup (c, m)) us = _
        rw [h1]
      rw [e]
      exact F
/-- the law's promise -/
def spE (n : Nat) (K : PySem.W.Frag) : Sp := fun vs H Q _ => ∃ (a : Addr) (ns : List Int), vs = [.ref a] ∧ ns.length ≤ n ∧ Only H ∧ SqL K H a (ns.map V.int) ∧ ∀ H', Q (.bl true) H'
theorem spE_imp {n : Nat} {g : List U → M U} (hg : ∀ ns : List Int, ns.length ≤ n → ∃ h', g [.ref 0] [.frz (ns.map U.int)] = .ok (.bl true) h') (vs : List V) (H : Hp) (Q : VK) (E : XK) (h : spE n K vs H Q E) : spU K mg 1 g vs H Q E := by
  obtain ⟨a, ns, rfl, hl, hO, hS, q⟩ := h
  obtain ⟨h', e⟩ := hg ns hl
  have rv : ∀ ρ H, RepVs K ρ H (ns.map U.int) (ns.map V.int) := fun ρ H => RepVs.map (f := U.int) (g := V.int) (fun i => by unfold RepV; rfl) ns
  refine ⟨[a], [.frz (ns.map U.int)], [.ref 0], ⟨rfl, fun i j b _ _ w1 _ => ?_, fun i o b e1 e2 => ?_, ⟨_, rfl⟩, fun i xs e1 => ?_⟩, RepVs.one (by unfold RepV; exact ⟨a, rfl, rfl⟩), rfl, ?_⟩
  · obtain ⟨o, e1, w⟩ := w1
    cases i with
    | zero => cases e1; exact absurd rfl (w _)
    | succ i => simp at e1
  · cases i with
    | zero =>
      cases e1
      cases e2
      refine ⟨_, ?_, rv _ _⟩
      rcases hS with hS | hS
      · rcases hS with hS | hS
        · rcases hO a with z | ⟨o, xs, z⟩
          · rw [z] at hS; cases hS
          · rw [z] at hS; cases hS
        · exact .inl hS
      · exact .inr hS
    | succ i => simp at e1
  · cases i with
    | zero => rfl
    | succ i => simp at e1
  · rw [e]
    intro ρ' H' x r v rv
    unfold RepV at rv
    rw [rv]
    exact q H'
theorem run_ok1 {G : Gm} {k : Nat} {D : Df} {f : Addr} {np : Nat} {fd : FuncData} {ps : List Str} (fa : FactsAt T G P w K mg base k) (F : DefK K D.st f fd) (S : FnScope D.N ps (defScope D.st)) (hl : ps.length = np) (hn : D.np = np) : FnOk P w K mg base (L2.CX P w) (k + 1) f fd ps (spU K mg np (runD T G (some D))) := by
  have q := fn_ok F S fa fuel
  rw [hl] at q
  have e : runD T G (some D) = fnM D.N.length np (compSs T G D.N fuel (defScope D.st) (defBody D.st)) := by
    rw [← hn]
    rfl
  rw [e]
  exact q
theorem dfl0 {fd : FuncData} {ps : List Str} (b : Binds K fd ps []) (n : Nat) : Dfl K fd ps (([] : List U).drop n) := by
  rw [List.drop_nil]
  exact ⟨[], [], fun _ _ => rfl, .nil, b⟩
/-- the law's def keeps its promise -/
theorem law_ok (kf : KF T fs ms K mg) {D : Df} {f : Addr} {d n : Nat} {fd : FuncData} {x : Str} (h1 : fs.lookup ("law" : Str) = some D) (F : DefK K D.st f fd) (S : FnScope D.N [x] (defScope D.st)) (hn : D.np = 1) (hb : ∀ (s : Shared) (u : Value), BindsTo s fd ⟨[u], []⟩ [(x, u)])
    (hg : ∀ ns : List Int, ns.length ≤ n → ∃ h', (gm T fs ms (d + 1)).fn "law" [.ref 0] [.frz (ns.map U.int)] = .ok (.bl true) h') :
    ∃ fd : FuncData, (∀ (s : Shared) (u : Value), BindsTo s fd ⟨[u], []⟩ [(x, u)]) ∧ ∀ base : Heap, K.In base → base.Ns mainGlobals mg → FnOk P w K mg base (L2.CX P w) (2 * (d + 1)) f fd [x] (spE n K) := by
  refine ⟨fd, hb, fun base _ _ => FnOk.imp (run_ok1 (facts_all kf d) F S rfl hn) fun vs H Q E h => ?_⟩
  have e : (gm T fs ms (d + 1)).fn "law" = runD T (gm T fs ms d) (some D) := by
    funext us
    show runD T (gm T fs ms d) (fs.lookup ("law" : Str)) us = _
    rw [h1]
  rw [← e]
  exact spE_imp hg vs H Q E h
/-- no exception of the law's own is left -/
theorem cx_none {w : World} (H : Hp) (s : Shared) (e : Value) (s' : Shared) (h : L2.CX P w [] H s (fun _ _ _ => False) e s') : False := by
  obtain ⟨_, _, _, _, _, _, _, _, _, _, _, _, z⟩ := h
  exact z
theorem walk {l : PySem.W.OpenLaw} {q : Program} {loose : List Str} {XP : (Str → Option Value) → Heap → Prop} {YP : World → Heap → Prop} {d : DefRec} {K : Params → PySem.W.Frag} {n k : Nat} {x : Str} (hn : l.most = some n) (hn2 : n ≤ sizeLine) (hdf : d.params.defaults = []) (hr : Room k callerA) (hY : ∀ (w : World) (h : Heap), YP w h → (K w.params).In h)
    (F : ∀ (w : World) (mg : Str → Option Value) (fa : Addr) (h : Heap), (K w.params).In h → h.Ns mainGlobals mg → mg d.name = some (.ref fa) →
      ∃ fd : FuncData, (∀ (s : Shared) (u : Value), BindsTo s fd ⟨[u], []⟩ [(x, u)]) ∧ ∀ base : Heap, (K w.params).In base → base.Ns mainGlobals mg → FnOk l.prog w (K w.params) mg base (L2.CX l.prog w) k fa fd [x] (spE n (K w.params))) :
    PySem.W.WalkO q loose XP YP l.row.toRowW d [] (fun f vs => PySem.call f vs) :=
  L2.walk_of (CX := fun w => L2.CX l.prog w) (sp := fun w => spE n (K w.params)) hn hn2 hdf hr hY F (fun _ _ a ns hl hO hS => ⟨a, ns, rfl, hl, hO, hS, fun _ => rfl⟩) fun _ H s e s' z => cx_none H s e s' z
end
end MP
/-! MPq: what holds behind a run of the small machine. -/
namespace MP
open PySem

/-- the run ends well, and then Q -/
def wp {α : Type} (m : M α) (Q : α → VH → Prop) (h : VH) : Prop := match m h with
  | .ok a h' => Q a h'
  | _ => False
section
variable {α β : Type} {h : VH} {η : Env} {u v w : U} {us xs ys : List U} {n i j k : Nat} {Q : U → VH → Prop}
theorem wp_of {m : M α} {Q : α → VH → Prop} {a : α} {h' : VH} (e : m h = .ok a h') : wp m Q h = Q a h' := by unfold wp; rw [e]
theorem wp_ok {m : M α} {Q : α → VH → Prop} (p : wp m Q h) : ∃ a h', m h = .ok a h' ∧ Q a h' := by
  unfold wp at p
  cases e : m h with
  | ok a h' => rw [e] at p; exact ⟨a, h', rfl, p⟩
  | exc c fs h' => rw [e] at p; exact p.elim
  | bad => rw [e] at p; exact p.elim
theorem wp_mono {m : M α} {Q Q' : α → VH → Prop} (p : wp m Q h) (hq : ∀ a h', Q a h' → Q' a h') : wp m Q' h := by
  obtain ⟨a, h', e, q⟩ := wp_ok p
  rw [wp_of e]
  exact hq _ _ q
theorem wp_ret {a : α} {Q : α → VH → Prop} : wp (mret a) Q = Q a := id rfl
theorem wp_bnd {m : M α} {k : α → M β} {Q : β → VH → Prop} : wp (bnd m k) Q = wp m (fun a => wp (k a) Q) := by
  funext h
  unfold wp bnd
  cases m h <;> rfl
theorem wp_xV {i : Nat} (e : η[i]? = some (some u)) : wp (xV i η) Q h = Q u h := by
  unfold wp xV
  rw [e]
  rfl
/-- the slot's value -/
def atS (η : Env) (i : Nat) (k : U → Prop) : Prop := match η[i]? with
  | some (some u) => k u
  | _ => False
theorem wp_V {i : Nat} : wp (xV i η) Q = fun h => atS η i (fun u => Q u h) := by
  funext h
  unfold wp xV atS
  cases η[i]? with
  | none => rfl
  | some o => cases o <;> rfl
theorem atS_0 {o : Option U} {r : Env} {k : U → Prop} : atS (some u :: r) 0 k = k u := id rfl
theorem atS_s {o : Option U} {r : Env} {k : U → Prop} {i : Nat} : atS (o :: r) (i + 1) k = atS r i k := by
  unfold atS
  rw [List.getElem?_cons_succ]
theorem wp_C : wp (xC u η) Q = Q u := id rfl
theorem wp_Op {f : O2} {a b : EM} : wp (xOp f a b η) Q = wp (a η) (fun u => wp (b η) (fun v => wp (f u v) Q)) := by
  unfold xOp
  rw [wp_bnd]
  simp only [wp_bnd]
theorem wp_Un {f : U → M U} {a : EM} : wp (xUn f a η) Q = wp (a η) (fun u => wp (f u) Q) := by
  unfold xUn
  rw [wp_bnd]
theorem wp_If {t : TM} {a b : EM} : wp (xIf t a b η) Q = wp (t η) (fun c => wp (if c = true then a η else b η) Q) := by
  unfold xIf
  rw [wp_bnd]
theorem wp_And {a b : EM} : wp (xAnd a b η) Q = wp (a η) (fun u => wp (truB u) (fun c => wp (if c = true then b η else mret u) Q)) := by
  unfold xAnd
  simp only [wp_bnd]
theorem wp_Or {a b : EM} : wp (xOr a b η) Q = wp (a η) (fun u => wp (truB u) (fun c => wp (if c = true then mret u else b η) Q)) := by
  unfold xOr
  simp only [wp_bnd]
theorem wp_Not {a : EM} : wp (xNot a η) Q = wp (a η) (fun u => wp (truB u) (fun c => Q (.bl (!c)))) := by
  unfold xNot
  simp only [wp_bnd, wp_ret]
theorem wp_ev0 {Q : List U → VH → Prop} : wp (evL [] η) Q = Q [] := id rfl
theorem wp_ev {m : EM} {ms : List EM} {Q : List U → VH → Prop} : wp (evL (m :: ms) η) Q = wp (m η) (fun u => wp (evL ms η) (fun us => Q (u :: us))) := by
  show wp (bnd (m η) fun u => bnd (evL ms η) fun us => mret (u :: us)) Q = _
  simp only [wp_bnd, wp_ret]
theorem wp_Tup {ms : List EM} : wp (xTup ms η) Q = wp (evL ms η) (fun us => Q (.tup us)) := by
  unfold xTup
  simp only [wp_bnd, wp_ret]
theorem wp_Lst {ms : List EM} : wp (xLst ms η) Q = wp (evL ms η) (fun us h => Q (.ref h.length) (h ++ [.lst us])) := by
  unfold xLst
  rw [wp_bnd]
  rfl
theorem wp_newL : wp (newL us) Q = fun h => Q (.ref h.length) (h ++ [.lst us]) := id rfl
def chainK (c : EM) (g : O2) (η : Env) (v r : U) : M U := match r with
  | .bl k => if k = true then bnd (c η) fun w => g v w else mret (.bl false)
  | _ => mbad
theorem wp_Chain {f g : O2} {a b c : EM} : wp (xChain f g a b c η) Q = wp (a η) (fun u => wp (b η) (fun v => wp (f u v) (fun r => wp (chainK c g η v r) Q))) := by
  unfold xChain
  simp only [wp_bnd]
  rfl
theorem wp_ck {c : EM} {g : O2} {k : Bool} : wp (chainK c g η v (.bl k)) Q = if k = true then wp (c η) (fun w => wp (g v w) Q) else Q (.bl false) := by
  unfold chainK
  cases k with
  | true => simp only [if_true, wp_bnd]
  | false => simp only [Bool.false_eq_true, if_false]; rfl
theorem wp_Fld {cs : List Str} {f : Str} {a : EM} : wp (xFld cs f a η) Q = wp (a η) (fun u => wp (fldU cs f u) Q) := by
  unfold xFld
  rw [wp_bnd]
theorem wp_Fn {g : List U → M U} {ms : List EM} : wp (xFn g [] ms η) Q = wp (evL ms η) (fun us => wp (g us) Q) := by
  unfold xFn
  simp only [wp_bnd, List.append_nil]
theorem wp_B {f : List U → M U} {ms : List EM} : wp (xB f ms η) Q = wp (evL ms η) (fun us => wp (f us) Q) := by
  unfold xB
  rw [wp_bnd]
theorem wp_Is {kc cs : List Str} {a : EM} : wp (xIs kc cs a η) Q = wp (a η) (fun u => wp (isF kc cs u) Q) := by
  unfold xIs
  rw [wp_bnd]
theorem wp_Mth {G : Str → Str → List U → M U} {m : Str} {cs : List Str} {a : EM} {ms : List EM} : wp (xMth G m cs [] a ms η) Q = wp (a η) (fun u => wp (callM G m cs [] u (evL ms η)) Q) := by
  unfold xMth
  rw [wp_bnd]
/-- a method of an own instance -/
theorem wp_own {G : Str → Str → List U → M U} {m c : Str} {cs : List Str} {fs : Fs} {ar : M (List U)} (e : h[n]? = some (.ins c fs)) (hc : c ∈ cs) (hf : fs.lookup m = none) : wp (callM G m cs [] (.ref n) ar) Q h = wp ar (fun us => wp (G c m (.ref n :: us)) Q) h := by
  have : callM G m cs [] (.ref n) ar h = bnd ar (fun us => G c m (.ref n :: (us ++ []))) h := by
    unfold callM
    simp only [e]
    rw [if_pos ⟨hc, hf⟩]
  have q : wp (callM G m cs [] (.ref n) ar) Q h = wp (bnd ar (fun us => G c m (.ref n :: (us ++ [])))) Q h := by
    unfold wp
    rw [this]
  rw [q, wp_bnd]
  simp only [List.append_nil]
theorem wp_lm {G : Str → Str → List U → M U} {m : Str} {cs : List Str} {ar : M (List U)} (e : h[n]? = some (.lst xs)) (hm : m = "append" ∨ m = "extend" ∨ m = "pop" ∨ m = "index") : wp (callM G m cs [] (.ref n) ar) Q h = wp ar (fun us => wp (lstM m (.ref n) us) Q) h := by
  have : callM G m cs [] (.ref n) ar h = bnd ar (fun us => lstM m (.ref n) us) h := by
    unfold callM
    simp only [e]
    rw [if_pos hm]
  have q : wp (callM G m cs [] (.ref n) ar) Q h = wp (bnd ar (fun us => lstM m (.ref n) us)) Q h := by
    unfold wp
    rw [this]
  rw [q, wp_bnd]
theorem wp_join {G : Str → Str → List U → M U} {cs : List Str} {ar : M (List U)} {x : Str} : wp (callM G "join" cs [] (.str x) ar) Q h = wp ar (fun us => wp (strM "join" (.str x) us) Q) h := by
  have : callM G "join" cs [] (.str x) ar h = bnd ar (fun us => strM "join" (.str x) us) h := by
    unfold callM
    simp only [if_true]
  have q : wp (callM G "join" cs [] (.str x) ar) Q h = wp (bnd ar (fun us => strM "join" (.str x) us)) Q h := by
    unfold wp
    rw [this]
  rw [q, wp_bnd]
theorem wp_tix {G : Str → Str → List U → M U} {cs : List Str} {ar : M (List U)} : wp (callM G "index" cs [] (.tup xs) ar) Q h = wp ar (fun us => wp (tupM "index" (.tup xs) us) Q) h := by
  have : callM G "index" cs [] (.tup xs) ar h = bnd ar (fun us => tupM "index" (.tup xs) us) h := by
    unfold callM
    simp only [if_true]
  have q : wp (callM G "index" cs [] (.tup xs) ar) Q h = wp (bnd ar (fun us => tupM "index" (.tup xs) us)) Q h := by
    unfold wp
    rw [this]
  rw [q, wp_bnd]
/-! tests -/
section
variable {R : Bool → VH → Prop}
theorem wp_tU {a : EM} : wp (tU a η) R = wp (a η) (fun u => wp (truB u) R) := by
  unfold tU
  rw [wp_bnd]
def blK (R : Bool → VH → Prop) : U → VH → Prop := fun u h => match u with
  | .bl b => R b h
  | _ => False
theorem bk {b : Bool} : blK R (.bl b) = R b := id rfl
theorem wp_tBl {a : EM} : wp (tBl a η) R = wp (a η) (blK R) := by
  unfold tBl
  rw [wp_bnd]
  congr 1
  funext u h
  cases u <;> rfl
theorem wp_tNot {t : TM} : wp (tNot t η) R = wp (t η) (fun c => R (!c)) := by
  unfold tNot
  simp only [wp_bnd, wp_ret]
theorem wp_tAnd {t s : TM} : wp (tAnd t s η) R = wp (t η) (fun c => wp (if c = true then s η else mret false) R) := by
  unfold tAnd
  simp only [wp_bnd]
theorem wp_tOr {t s : TM} : wp (tOr t s η) R = wp (t η) (fun c => wp (if c = true then mret true else s η) R) := by
  unfold tOr
  simp only [wp_bnd]
theorem wp_tYes : wp (tYes η) R = R true := id rfl
theorem wp_ite {c : Prop} [Decidable c] {m m' : M α} {Q : α → VH → Prop} : wp (if c then m else m') Q = if c then wp m Q else wp m' Q := by
  by_cases e : c
  · rw [if_pos e, if_pos e]
  · rw [if_neg e, if_neg e]
/-! truth -/
theorem tr_bl {b : Bool} : wp (truB (.bl b)) R = R b := id rfl
theorem tr_non : wp (truB .non) R = R false := id rfl
theorem tr_int {i : Int} : wp (truB (.int i)) R = R (i != 0) := id rfl
theorem tr_tup : wp (truB (.tup xs)) R = R (!xs.isEmpty) := id rfl
theorem tr_lst (e : h[n]? = some (.lst xs)) : wp (truB (.ref n)) R h = R (!xs.isEmpty) h := by
  unfold wp truB
  simp only [e]
theorem tr_frz (e : h[n]? = some (.frz xs)) : wp (truB (.ref n)) R h = R (!xs.isEmpty) h := by
  unfold wp truB
  simp only [e]
end
/-! operators on ints -/
section
variable {a b : Int}
theorem w_add : wp (addU (.int a) (.int b)) Q = Q (.int (a + b)) := id rfl
theorem w_sub : wp (subU (.int a) (.int b)) Q = Q (.int (a - b)) := id rfl
theorem w_mul (c : (-(2 ^ 64) < a ∧ a < 2 ^ 64) ∨ (-(2 ^ 64) < b ∧ b < 2 ^ 64)) : wp (mulU (.int a) (.int b)) Q = Q (.int (a * b)) := by
  funext h
  unfold wp mulU
  simp only
  rw [if_pos c]
  rfl
theorem w_fdiv (c : b ≠ 0 ∧ b.natAbs < 1073741824) : wp (fdivU (.int a) (.int b)) Q = Q (.int (a.fdiv b)) := by
  funext h
  unfold wp fdivU opI
  simp only
  rw [if_pos c]
  rfl
theorem w_mod (c : b ≠ 0) : wp (modU (.int a) (.int b)) Q = Q (.int (a.fmod b)) := by
  funext h
  unfold wp modU opI
  simp only
  rw [if_pos c]
  rfl
theorem w_pow (c : 0 ≤ b ∧ b ≤ 1000000 ∧ a.natAbs < 2 ^ 64) : wp (powU (.int a) (.int b)) Q = Q (.int (a ^ b.toNat)) := by
  funext h
  unfold wp powU opI
  simp only
  rw [if_pos c]
  rfl
theorem w_neg : wp (negU (.int a)) Q = Q (.int (-a)) := id rfl
theorem w_lt : wp (ltU (.int a) (.int b)) Q = Q (.bl (decide (a < b))) := id rfl
theorem w_le : wp (leU (.int a) (.int b)) Q = Q (.bl (decide (a ≤ b))) := id rfl
theorem w_gt : wp (gtU (.int a) (.int b)) Q = Q (.bl (decide (b < a))) := id rfl
theorem w_ge : wp (geU (.int a) (.int b)) Q = Q (.bl (decide (b ≤ a))) := id rfl
theorem w_int : wp (intF [.int a]) Q = Q (.int a) := id rfl
theorem w_abs : wp (absF [.int a]) Q = Q (.int (if a < 0 then -a else a)) := id rfl
end
/-! subscripts -/
theorem ixN_nat {n j : Nat} (hj : j < n) : L2.ixN n (j : Int) = some j := by
  unfold L2.ixN
  rw [if_pos (by omega), if_pos (by omega)]
  rfl
theorem atI_nat {xs : List α} {j : Nat} : L2.atI xs (j : Int) = xs[j]? := by
  unfold L2.atI
  by_cases hj : j < xs.length
  · rw [ixN_nat hj]
    rfl
  · unfold L2.ixN
    rw [if_pos (by omega), if_neg (by omega), List.getElem?_eq_none (by omega)]
    rfl
theorem w_getL {x : U} {z : Int} (e : h[n]? = some (.lst xs)) (g : L2.atI xs z = some x) : wp (getU (.ref n) (.int z)) Q h = Q x h := by
  unfold wp getU
  simp only [e, g]
  rfl
theorem w_getF {x : U} {z : Int} (e : h[n]? = some (.frz xs)) (g : L2.atI xs z = some x) : wp (getU (.ref n) (.int z)) Q h = Q x h := by
  unfold wp getU
  simp only [e, g]
  rfl
theorem w_getT {x : U} {z : Int} (g : L2.atI xs z = some x) : wp (getU (.tup xs) (.int z)) Q h = Q x h := by
  unfold wp getU
  simp only [g]
  rfl
theorem w_getS {x : Str} {c : Nat} {z : Int} (hl : x.length ≤ sizeLine) (g : L2.atI x.cps.toList z = some c) : wp (getU (.str x) (.int z)) Q h = Q (.str ⟨#[c]⟩) h := by
  unfold wp getU
  simp only [g]
  rw [if_pos hl]
  rfl
theorem w_setL {v : U} {z : Int} {R : Unit → VH → Prop} (e : h[n]? = some (.lst xs)) (g : L2.ixN xs.length z = some j) : wp (setU (.ref n) (.int z) v) R h = R () (h.set n (.lst (xs.set j v))) := by
  unfold wp setU
  simp only [e, g]
theorem w_fld {cs : List Str} {c f : Str} {fs : Fs} {v : U} (e : h[n]? = some (.ins c fs)) (hc : c ∈ cs) (g : fs.lookup f = some v) : wp (fldU cs f (.ref n)) Q h = Q v h := by
  unfold wp fldU
  simp only [e, g]
  rw [if_pos hc]
theorem w_lenL (e : h[n]? = some (.lst xs)) : wp (lenU [.ref n]) Q h = Q (.int xs.length) h := by
  unfold wp lenU lstOf
  simp only [e]
theorem w_lenF (e : h[n]? = some (.frz xs)) : wp (lenU [.ref n]) Q h = Q (.int xs.length) h := by
  unfold wp lenU lstOf
  simp only [e]
theorem w_lenT : wp (lenU [.tup xs]) Q = Q (.int xs.length) := id rfl
theorem w_lenS {x : Str} (hl : x.length ≤ sizeLine) : wp (lenU [.str x]) Q h = Q (.int x.length) h := by
  unfold wp lenU
  simp only
  rw [if_pos hl]
theorem w_tupL (e : h[n]? = some (.lst xs)) : wp (tupF [.ref n]) Q h = Q (.tup xs) h := by
  unfold wp tupF seqOf lstOf
  simp only [e]
theorem w_tupT : wp (tupF [.tup xs]) Q = Q (.tup xs) := id rfl
theorem w_lstL (e : h[n]? = some (.lst xs)) : wp (listF [.ref n]) Q h = Q (.ref h.length) (h ++ [.lst xs]) := by
  unfold wp listF seqOf lstOf
  simp only [e]
  rfl
theorem w_lstF (e : h[n]? = some (.frz xs)) : wp (listF [.ref n]) Q h = Q (.ref h.length) (h ++ [.lst xs]) := by
  unfold wp listF seqOf lstOf
  simp only [e]
  rfl
theorem w_lstT : wp (listF [.tup xs]) Q = fun h => Q (.ref h.length) (h ++ [.lst xs]) := id rfl
theorem mapO_map {γ : Type} {f : α → γ} {g : γ → Option α} (hg : ∀ a, g (f a) = some a) : ∀ l : List α, mapO g (l.map f) = some l
  | [] => rfl
  | a :: l => by
    rw [List.map_cons]
    unfold mapO
    rw [hg, mapO_map hg l]
theorem w_sorted {ns : List Int} (e : h[n]? = some (.lst (ns.map .int))) : wp (sortedF [.ref n]) Q h = Q (.ref h.length) (h ++ [.lst ((sortI ns).map .int)]) := by
  unfold wp sortedF intsOf lstOf
  simp only [e, Option.bind_some]
  rw [mapO_map (f := U.int) (g := toI) (fun _ => rfl)]
  rfl
theorem w_all {bs : List Bool} (e : h[n]? = some (.lst (bs.map .bl))) : wp (allF [.ref n]) Q h = Q (.bl (bs.all id)) h := by
  unfold wp allF blsOf lstOf
  simp only [e, Option.bind_some]
  rw [mapO_map (f := U.bl) (g := toBl) (fun _ => rfl)]
theorem w_append (e : h[n]? = some (.lst xs)) (hl : xs.length < sizeLine) : wp (lstM "append" (.ref n) [u]) Q h = Q .non (h.set n (.lst (xs ++ [u]))) := by
  unfold wp lstM mLst
  simp only [e, if_true, if_pos hl]
end

/-! ### statements, loops, defs -/
section
variable {α : Type} {h : VH} {η : Env} {S : Fl → VH → Prop}
theorem ws_nil : wp (sNil η) S = S (.next η) := id rfl
theorem ws_bad : wp (sBad η) S h = False := id rfl
def seqK (b : SM) (S : Fl → VH → Prop) : Fl → VH → Prop := fun r => match r with
  | .next η' => wp (b η') S
  | r => S r
theorem sk_next {b : SM} : seqK b S (.next η) = wp (b η) S := id rfl
theorem sk_ret {b : SM} {u : U} : seqK b S (.ret u) = S (.ret u) := id rfl
theorem sk_brk {b : SM} : seqK b S (.brk η) = S (.brk η) := id rfl
theorem sk_cont {b : SM} : seqK b S (.cont η) = S (.cont η) := id rfl
theorem ws_seq {a b : SM} : wp (sSeq a b η) S = wp (a η) (seqK b S) := by
  unfold sSeq
  rw [wp_bnd]
  congr 1
  funext r
  cases r <;> rfl
theorem ws_one {i : Nat} {m : EM} : wp (sTg (.one i) m η) S = wp (m η) (fun u => S (.next (η.set i (some u)))) := by
  unfold sTg tgM
  simp only [wp_bnd, wp_ret]
theorem ws_par {is : List Nat} {ms : List EM} : wp (sPar is ms η) S = wp (evL ms η) (fun us => S (.next (setAll is us η))) := by
  unfold sPar
  simp only [wp_bnd, wp_ret]
theorem ws_put {o i m : EM} : wp (sPut o i m η) S = wp (m η) (fun v => wp (o η) (fun u => wp (i η) (fun k => wp (setU u k v) (fun _ => S (.next η))))) := by
  unfold sPut
  simp only [wp_bnd, wp_ret]
theorem ws_fld {cs : List Str} {f : Str} {o m : EM} : wp (sFld cs f o m η) S = wp (m η) (fun v => wp (o η) (fun u => wp (setFldU cs f u v) (fun _ => S (.next η)))) := by
  unfold sFld
  simp only [wp_bnd, wp_ret]
theorem ws_aug {i : Nat} {f : O2} {m : EM} : wp (sAug i f m η) S = wp (xV i η) (fun u => wp (m η) (fun v => wp (f u v) (fun w => S (.next (η.set i (some w)))))) := by
  unfold sAug
  simp only [wp_bnd, wp_ret]
theorem ws_exp {m : EM} : wp (sExp m η) S = wp (m η) (fun _ => S (.next η)) := by
  unfold sExp
  simp only [wp_bnd, wp_ret]
theorem ws_ret {m : EM} : wp (sRet m η) S = wp (m η) (fun u => S (.ret u)) := by
  unfold sRet
  simp only [wp_bnd, wp_ret]
theorem ws_retN : wp (sRetN η) S = S (.ret .non) := id rfl
theorem ws_if {t : TM} {a b : SM} : wp (sIf t a b η) S = wp (t η) (fun c => wp (if c = true then a η else b η) S) := by
  unfold sIf
  rw [wp_bnd]
/-- for: I by the turn -/
theorem ws_for {it : Env → M Itr} {tg : Tg} {b : SM} : wp (sFor it tg b η) S = wp (it η) (fun I => wp (forL I.w (tgM tg) b I.us η) S) := by
  unfold sFor
  rw [wp_bnd]
theorem wp_forL {w : List (Nat × VO)} {tg : GM} {b : SM} (I : Nat → Env → VH → Prop) : ∀ (us : List U) (k : Nat) (η : Env) (h : VH), I k η h →
    (∀ i u η h, us[i]? = some u → I (k + i) η h → okW w h = true ∧ wp (tg u η) (fun η' => wp (b η') (fun r h' => match r with
      | .next η' => I (k + i + 1) η' h'
      | .cont η' => I (k + i + 1) η' h'
      | .brk η' => S (.next η') h'
      | .ret v => S (.ret v) h')) h) → (∀ η h, I (k + us.length) η h → okW w h = true ∧ S (.next η) h) → wp (forL w tg b us η) S h
  | [], k, η, h, h0, _, hd => by
    obtain ⟨d1, d2⟩ := hd η h h0
    unfold wp forL
    rw [if_pos d1]
    exact d2
  | u :: us, k, η, h, h0, hs, hd => by
    obtain ⟨d1, d2⟩ := hs 0 u η h rfl h0
    have e : forL w tg b (u :: us) η h = bnd (bnd (tg u η) b) (fun r => match r with
        | .next η' => forL w tg b us η'
        | .cont η' => forL w tg b us η'
        | .brk η' => mret (.next η')
        | .ret v => mret (.ret v)) h := by
      show (if okW w h = true then _ else _) = _
      rw [if_pos d1]
      first | done | rfl
    have go : ∀ η' h', I (k + 0 + 1) η' h' → wp (forL w tg b us η') S h' := fun η' h' hi => wp_forL I us (k + 1) η' h' hi (fun i v η h hv hI => by
      have := hs (i + 1) v η h (by simpa using hv) (by have e : k + (i + 1) = k + 1 + i := by omega
                                                       rw [e]; exact hI)
      have e : k + (i + 1) + 1 = k + 1 + i + 1 := by omega
      rw [e] at this
      exact this) fun η h hI => hd η h (by
        have e : k + (u :: us).length = k + 1 + us.length := by rw [List.length_cons]; omega
        rw [e]
        exact hI)
    have q : wp (bnd (bnd (tg u η) b) (fun r => match r with
        | .next η' => forL w tg b us η'
        | .cont η' => forL w tg b us η'
        | .brk η' => mret (.next η')
        | .ret v => mret (.ret v))) S h := by
      rw [wp_bnd, wp_bnd]
      refine wp_mono d2 fun η' h' p => wp_mono p fun r h2 p => ?_
      cases r with
      | next η3 => exact go η3 h2 p
      | cont η3 => exact go η3 h2 p
      | brk η3 => exact p
      | ret v => exact p
    unfold wp at q ⊢
    rw [e]
    exact q
theorem whileN_more {t : TM} {b : SM} : ∀ (n : Nat) (η : Env) (h : VH) (r : Res Fl), whileN t b n η h = some r → whileN t b (n + 1) η h = some r
  | 0, _, _, _, e => by cases e
  | n + 1, η, h, r, e => by
    unfold whileN at e ⊢
    cases e1 : t η h with
    | bad => simp only [e1] at e ⊢; exact e
    | exc c fs h1 => simp only [e1] at e ⊢; exact e
    | ok c h1 =>
      simp only [e1] at e ⊢
      cases c with
      | false => simpa using e
      | true =>
        rw [if_pos rfl] at e ⊢
        cases e2 : b η h1 with
        | bad => simp only [e2] at e ⊢; exact e
        | exc c fs h2 => simp only [e2] at e ⊢; exact e
        | ok fl h2 =>
          cases fl with
          | next η' => simp only [e2] at e ⊢; exact whileN_more n η' h2 r e
          | cont η' => simp only [e2] at e ⊢; exact whileN_more n η' h2 r e
          | brk η' => simp only [e2] at e ⊢; exact e
          | ret u => simp only [e2] at e ⊢; exact e
theorem whileN_le {t : TM} {b : SM} {n : Nat} {η : Env} {h : VH} {r : Res Fl} (e : whileN t b n η h = some r) : ∀ k : Nat, whileN t b (n + k) η h = some r
  | 0 => e
  | k + 1 => whileN_more (n + k) η h r (whileN_le e k)
theorem whileN_det {t : TM} {b : SM} {n m : Nat} {η : Env} {h : VH} {r s : Res Fl} (e : whileN t b n η h = some r) (f : whileN t b m η h = some s) : r = s := by
  have e1 := whileN_le e m
  have f1 := whileN_le f n
  rw [Nat.add_comm] at f1
  rw [e1] at f1
  exact Option.some.inj f1
theorem sWhile_is {t : TM} {b : SM} {n : Nat} {r : Res Fl} (e : whileN t b n η h = some r) : sWhile t b η h = r := by
  unfold sWhile
  have ex : ∃ n, (whileN t b n η h).isSome = true := ⟨n, by rw [e]; rfl⟩
  rw [dif_pos ex]
  have hs := Classical.choose_spec ex
  generalize Classical.choose ex = m at hs
  cases f : whileN t b m η h with
  | none => rw [f] at hs; cases hs
  | some s => rw [whileN_det e f]; rfl
/-- while: I by a measure -/
theorem ws_while {t : TM} {b : SM} (I : Nat → Env → VH → Prop) (hs : ∀ m η h, I m η h → wp (t η) (fun c h1 => if c = true then wp (b η) (fun r h2 => match r with
      | .next η' => ∃ m', m' < m ∧ I m' η' h2
      | .cont η' => ∃ m', m' < m ∧ I m' η' h2
      | .brk η' => S (.next η') h2
      | .ret v => S (.ret v) h2) h1 else S (.next η) h1) h) (m : Nat) (h0 : I m η h) : wp (sWhile t b η) S h := by
  have key : ∀ (m : Nat) (η : Env) (h : VH), I m η h → ∃ n fl h', whileN t b n η h = some (.ok fl h') ∧ S fl h' := by
    intro m
    induction m using Nat.strongRecOn with
    | _ m ih =>
      intro η h h0
      obtain ⟨c, h1, e1, q⟩ := wp_ok (hs m η h h0)
      cases c with
      | false =>
        refine ⟨1, .next η, h1, ?_, by simpa using q⟩
        unfold whileN
        simp only [e1]
        rfl
      | true =>
        rw [if_pos rfl] at q
        obtain ⟨fl, h2, e2, q⟩ := wp_ok q
        have step : ∀ η' : Env, (fl = .next η' ∨ fl = .cont η') → (∃ m', m' < m ∧ I m' η' h2) → ∃ n fl h', whileN t b n η h = some (.ok fl h') ∧ S fl h' := fun η' hf ⟨m', hm, hi⟩ => by
          obtain ⟨n, f2, h3, e3, q3⟩ := ih m' hm η' h2 hi
          refine ⟨n + 1, f2, h3, ?_, q3⟩
          unfold whileN
          rcases hf with rfl | rfl
          · simp only [e1, e2, if_true]
            exact e3
          · simp only [e1, e2, if_true]
            exact e3
        cases fl with
        | next η' => exact step η' (.inl rfl) q
        | cont η' => exact step η' (.inr rfl) q
        | brk η' =>
          refine ⟨1, .next η', h2, ?_, q⟩
          unfold whileN
          simp only [e1, e2, if_true]
        | ret v =>
          refine ⟨1, .ret v, h2, ?_, q⟩
          unfold whileN
          simp only [e1, e2, if_true]
  obtain ⟨n, fl, h', e, q⟩ := key m η h h0
  unfold wp
  rw [sWhile_is e]
  exact q
def fnK (Q : U → VH → Prop) : Fl → VH → Prop := fun r h => match r with
  | .next _ => Q .non h
  | .ret u => Q u h
  | _ => False
theorem fk_ret {Q : U → VH → Prop} {u : U} : fnK Q (.ret u) = Q u := id rfl
theorem fk_next {Q : U → VH → Prop} : fnK Q (.next η) = Q .non := id rfl
/-- a def -/
theorem wp_fn {N np : Nat} {b : SM} {us : List U} {Q : U → VH → Prop} (hl : us.length = np) : wp (fnM N np b us) Q = wp (b (us.map some ++ List.replicate (N - np) none)) (fnK Q) := by
  unfold fnM
  rw [if_pos hl, wp_bnd]
  congr 1
  funext r h
  cases r <;> rfl
/-! comprehensions -/
theorem wp_Lc {it : Env → M Itr} {tg : Tg} {t : TM} {e : EM} {Q : U → VH → Prop} : wp (xLc it tg t e η) Q = wp (it η) (fun I => if I.us.length ≤ sizeLine then wp (compL I.w (tgM tg) t e I.us η) (fun us h => Q (.ref h.length) (h ++ [.lst us])) else fun _ => False) := by
  unfold xLc
  rw [wp_bnd]
  congr 1
  funext I
  by_cases c : I.us.length ≤ sizeLine
  · rw [if_pos c, if_pos c, wp_bnd]
    rfl
  · rw [if_neg c, if_neg c]
    rfl
theorem wp_noX {m : M α} {Q : α → VH → Prop} : wp (noX m) Q = wp m Q := by
  funext h
  unfold wp noX
  cases m h <;> rfl
/-- I: by the turn, what is gathered, the heap -/
theorem wp_compL {w : List (Nat × VO)} {tg : GM} {t : TM} {e : EM} {Q : List U → VH → Prop} (I : Nat → List U → VH → Prop) : ∀ (us : List U) (k : Nat) (acc : List U) (h : VH), I k acc h →
    (∀ i u acc h, us[i]? = some u → I (k + i) acc h → okW w h = true ∧ wp (tg u η) (fun η' => wp (t η') (fun c h1 => if c = true then wp (e η') (fun v h2 => I (k + i + 1) (acc ++ [v]) h2) h1 else I (k + i + 1) acc h1)) h) →
    (∀ out h, I (k + us.length) out h → okW w h = true ∧ ∀ r, out = acc ++ r → Q r h) → wp (compL w tg t e us η) Q h
  | [], k, acc, h, h0, _, hd => by
    obtain ⟨d1, d2⟩ := hd acc h h0
    unfold wp compL
    rw [if_pos d1]
    exact d2 [] (by simp)
  | u :: us, k, acc, h, h0, hs, hd => by
    obtain ⟨d1, d2⟩ := hs 0 u acc h rfl h0
    have e1 : compL w tg t e (u :: us) η h = bnd (compT1 tg t e u η) (fun o => bnd (compL w tg t e us η) fun vs => mret (o.toList ++ vs)) h := by
      show (if okW w h = true then _ else _) = _
      rw [if_pos d1]
    have q : wp (bnd (compT1 tg t e u η) (fun o => bnd (compL w tg t e us η) fun vs => mret (o.toList ++ vs))) Q h := by
      have go : ∀ (o : Option U) h', I (k + 0 + 1) (acc ++ o.toList) h' → wp (bnd (compL w tg t e us η) fun vs => mret (o.toList ++ vs)) Q h' := fun o h' hi => by
        rw [wp_bnd]
        refine wp_compL (Q := fun vs => wp (mret (o.toList ++ vs)) Q) I us (k + 1) (acc ++ o.toList) h' hi (fun i v acc h hv hI => ?_) fun out h hI => ?_
        · have := hs (i + 1) v acc h (by simpa using hv) (by have e : k + (i + 1) = k + 1 + i := by omega
                                                             rw [e]; exact hI)
          have e : k + (i + 1) + 1 = k + 1 + i + 1 := by omega
          rw [e] at this
          exact this
        · obtain ⟨g1, g2⟩ := hd out h (by
            have e : k + (u :: us).length = k + 1 + us.length := by rw [List.length_cons]; omega
            rw [e]
            exact hI)
          exact ⟨g1, fun r hr => g2 (o.toList ++ r) (by rw [hr, List.append_assoc])⟩
      rw [wp_bnd]
      unfold compT1
      rw [wp_noX, wp_bnd]
      refine wp_mono d2 fun η' h' p => ?_
      rw [wp_bnd]
      refine wp_mono p fun c h1 p => ?_
      cases c with
      | false =>
        simp only [Bool.false_eq_true, if_false] at p ⊢
        exact go none h1 (by simpa using p)
      | true =>
        simp only [if_true] at p ⊢
        rw [wp_bnd]
        exact wp_mono p fun v h2 p => go (some v) h2 p
    unfold wp at q ⊢
    rw [e1]
    exact q
/-! what is walked -/
theorem wp_itV {a : EM} {Q : Itr → VH → Prop} : wp (itV a η) Q = wp (a η) (fun u => wp (itU u) Q) := by
  unfold itV
  rw [wp_bnd]
theorem wi_lst {n : Nat} {xs : List U} {Q : Itr → VH → Prop} (e : h[n]? = some (.lst xs)) : wp (itU (.ref n)) Q h = Q ⟨[(n, .lst xs)], xs⟩ h := by
  unfold wp itU
  simp only [e]
theorem wi_frz {n : Nat} {xs : List U} {Q : Itr → VH → Prop} (e : h[n]? = some (.frz xs)) : wp (itU (.ref n)) Q h = Q ⟨[], xs⟩ h := by
  unfold wp itU
  simp only [e]
theorem wi_str {x : Str} {Q : Itr → VH → Prop} : wp (itU (.str x)) Q = Q ⟨[], chrs x⟩ := id rfl
theorem wi_tup {xs : List U} {Q : Itr → VH → Prop} : wp (itU (.tup xs)) Q = Q ⟨[], xs⟩ := id rfl
theorem wp_r1 {a : EM} {Q : Itr → VH → Prop} : wp (itR1 a η) Q = wp (a η) (fun u h => match u with
  | .int j => if -(2 ^ 62) ≤ j ∧ j < 2 ^ 62 then Q ⟨[], rngL 0 j.toNat⟩ h else False
  | _ => False) := by
  unfold itR1
  rw [wp_bnd]
  congr 1
  funext u h
  cases u <;> try rfl
  rename_i j
  simp only
  by_cases c : -(2 ^ 62) ≤ j ∧ j < 2 ^ 62
  · rw [if_pos c, if_pos c]; rfl
  · rw [if_neg c, if_neg c]; rfl
theorem wp_en {a : EM} {Q : Itr → VH → Prop} : wp (itE a η) Q = wp (a η) (fun u h => match u with
  | .tup us => Q ⟨[], enumL 0 us⟩ h
  | .ref n => match h[n]? with
    | some (.lst us) => Q ⟨[(n, .lst us)], enumL 0 us⟩ h
    | some (.frz us) => Q ⟨[], enumL 0 us⟩ h
    | _ => False
  | _ => False) := by
  unfold itE
  rw [wp_bnd]
  congr 1
  funext u h
  unfold wp
  cases u <;> try rfl
  rename_i n
  simp only
  cases h[n]? with
  | none => rfl
  | some o => cases o <;> rfl
theorem okW_nil : okW [] h = true := id rfl
theorem okW_1 {n : Nat} {o : VO} (e : h[n]? = some o) : okW [(n, o)] h = true := by
  unfold okW
  simp [e]
end
theorem aV0 {u : U} {r : Env} {k : U → Prop} : atS (some u :: r) 0 k = k u := id rfl
theorem sV0 {y z : Option U} {r : Env} : List.set (y :: r) 0 z = z :: r := id rfl
theorem aV1 {x0 : Option U} {u : U} {r : Env} {k : U → Prop} : atS (x0 :: some u :: r) 1 k = k u := id rfl
theorem sV1 {x0 : Option U} {y z : Option U} {r : Env} : List.set (x0 :: y :: r) 1 z = x0 :: z :: r := id rfl
theorem aV2 {x0 x1 : Option U} {u : U} {r : Env} {k : U → Prop} : atS (x0 :: x1 :: some u :: r) 2 k = k u := id rfl
theorem sV2 {x0 x1 : Option U} {y z : Option U} {r : Env} : List.set (x0 :: x1 :: y :: r) 2 z = x0 :: x1 :: z :: r := id rfl
theorem aV3 {x0 x1 x2 : Option U} {u : U} {r : Env} {k : U → Prop} : atS (x0 :: x1 :: x2 :: some u :: r) 3 k = k u := id rfl
theorem sV3 {x0 x1 x2 : Option U} {y z : Option U} {r : Env} : List.set (x0 :: x1 :: x2 :: y :: r) 3 z = x0 :: x1 :: x2 :: z :: r := id rfl
theorem aV4 {x0 x1 x2 x3 : Option U} {u : U} {r : Env} {k : U → Prop} : atS (x0 :: x1 :: x2 :: x3 :: some u :: r) 4 k = k u := id rfl
theorem sV4 {x0 x1 x2 x3 : Option U} {y z : Option U} {r : Env} : List.set (x0 :: x1 :: x2 :: x3 :: y :: r) 4 z = x0 :: x1 :: x2 :: x3 :: z :: r := id rfl
theorem aV5 {x0 x1 x2 x3 x4 : Option U} {u : U} {r : Env} {k : U → Prop} : atS (x0 :: x1 :: x2 :: x3 :: x4 :: some u :: r) 5 k = k u := id rfl
theorem sV5 {x0 x1 x2 x3 x4 : Option U} {y z : Option U} {r : Env} : List.set (x0 :: x1 :: x2 :: x3 :: x4 :: y :: r) 5 z = x0 :: x1 :: x2 :: x3 :: x4 :: z :: r := id rfl
theorem aV6 {x0 x1 x2 x3 x4 x5 : Option U} {u : U} {r : Env} {k : U → Prop} : atS (x0 :: x1 :: x2 :: x3 :: x4 :: x5 :: some u :: r) 6 k = k u := id rfl
theorem sV6 {x0 x1 x2 x3 x4 x5 : Option U} {y z : Option U} {r : Env} : List.set (x0 :: x1 :: x2 :: x3 :: x4 :: x5 :: y :: r) 6 z = x0 :: x1 :: x2 :: x3 :: x4 :: x5 :: z :: r := id rfl
theorem aV7 {x0 x1 x2 x3 x4 x5 x6 : Option U} {u : U} {r : Env} {k : U → Prop} : atS (x0 :: x1 :: x2 :: x3 :: x4 :: x5 :: x6 :: some u :: r) 7 k = k u := id rfl
theorem sV7 {x0 x1 x2 x3 x4 x5 x6 : Option U} {y z : Option U} {r : Env} : List.set (x0 :: x1 :: x2 :: x3 :: x4 :: x5 :: x6 :: y :: r) 7 z = x0 :: x1 :: x2 :: x3 :: x4 :: x5 :: x6 :: z :: r := id rfl
theorem aV8 {x0 x1 x2 x3 x4 x5 x6 x7 : Option U} {u : U} {r : Env} {k : U → Prop} : atS (x0 :: x1 :: x2 :: x3 :: x4 :: x5 :: x6 :: x7 :: some u :: r) 8 k = k u := id rfl
theorem sV8 {x0 x1 x2 x3 x4 x5 x6 x7 : Option U} {y z : Option U} {r : Env} : List.set (x0 :: x1 :: x2 :: x3 :: x4 :: x5 :: x6 :: x7 :: y :: r) 8 z = x0 :: x1 :: x2 :: x3 :: x4 :: x5 :: x6 :: x7 :: z :: r := id rfl
theorem aV9 {x0 x1 x2 x3 x4 x5 x6 x7 x8 : Option U} {u : U} {r : Env} {k : U → Prop} : atS (x0 :: x1 :: x2 :: x3 :: x4 :: x5 :: x6 :: x7 :: x8 :: some u :: r) 9 k = k u := id rfl
theorem sV9 {x0 x1 x2 x3 x4 x5 x6 x7 x8 : Option U} {y z : Option U} {r : Env} : List.set (x0 :: x1 :: x2 :: x3 :: x4 :: x5 :: x6 :: x7 :: x8 :: y :: r) 9 z = x0 :: x1 :: x2 :: x3 :: x4 :: x5 :: x6 :: x7 :: x8 :: z :: r := id rfl
theorem aV10 {x0 x1 x2 x3 x4 x5 x6 x7 x8 x9 : Option U} {u : U} {r : Env} {k : U → Prop} : atS (x0 :: x1 :: x2 :: x3 :: x4 :: x5 :: x6 :: x7 :: x8 :: x9 :: some u :: r) 10 k = k u := id rfl
theorem sV10 {x0 x1 x2 x3 x4 x5 x6 x7 x8 x9 : Option U} {y z : Option U} {r : Env} : List.set (x0 :: x1 :: x2 :: x3 :: x4 :: x5 :: x6 :: x7 :: x8 :: x9 :: y :: r) 10 z = x0 :: x1 :: x2 :: x3 :: x4 :: x5 :: x6 :: x7 :: x8 :: x9 :: z :: r := id rfl
theorem aV11 {x0 x1 x2 x3 x4 x5 x6 x7 x8 x9 x10 : Option U} {u : U} {r : Env} {k : U → Prop} : atS (x0 :: x1 :: x2 :: x3 :: x4 :: x5 :: x6 :: x7 :: x8 :: x9 :: x10 :: some u :: r) 11 k = k u := id rfl
theorem sV11 {x0 x1 x2 x3 x4 x5 x6 x7 x8 x9 x10 : Option U} {y z : Option U} {r : Env} : List.set (x0 :: x1 :: x2 :: x3 :: x4 :: x5 :: x6 :: x7 :: x8 :: x9 :: x10 :: y :: r) 11 z = x0 :: x1 :: x2 :: x3 :: x4 :: x5 :: x6 :: x7 :: x8 :: x9 :: x10 :: z :: r := id rfl
theorem aV12 {x0 x1 x2 x3 x4 x5 x6 x7 x8 x9 x10 x11 : Option U} {u : U} {r : Env} {k : U → Prop} : atS (x0 :: x1 :: x2 :: x3 :: x4 :: x5 :: x6 :: x7 :: x8 :: x9 :: x10 :: x11 :: some u :: r) 12 k = k u := id rfl
theorem sV12 {x0 x1 x2 x3 x4 x5 x6 x7 x8 x9 x10 x11 : Option U} {y z : Option U} {r : Env} : List.set (x0 :: x1 :: x2 :: x3 :: x4 :: x5 :: x6 :: x7 :: x8 :: x9 :: x10 :: x11 :: y :: r) 12 z = x0 :: x1 :: x2 :: x3 :: x4 :: x5 :: x6 :: x7 :: x8 :: x9 :: x10 :: x11 :: z :: r := id rfl
theorem aV13 {x0 x1 x2 x3 x4 x5 x6 x7 x8 x9 x10 x11 x12 : Option U} {u : U} {r : Env} {k : U → Prop} : atS (x0 :: x1 :: x2 :: x3 :: x4 :: x5 :: x6 :: x7 :: x8 :: x9 :: x10 :: x11 :: x12 :: some u :: r) 13 k = k u := id rfl
theorem sV13 {x0 x1 x2 x3 x4 x5 x6 x7 x8 x9 x10 x11 x12 : Option U} {y z : Option U} {r : Env} : List.set (x0 :: x1 :: x2 :: x3 :: x4 :: x5 :: x6 :: x7 :: x8 :: x9 :: x10 :: x11 :: x12 :: y :: r) 13 z = x0 :: x1 :: x2 :: x3 :: x4 :: x5 :: x6 :: x7 :: x8 :: x9 :: x10 :: x11 :: x12 :: z :: r := id rfl
theorem aV14 {x0 x1 x2 x3 x4 x5 x6 x7 x8 x9 x10 x11 x12 x13 : Option U} {u : U} {r : Env} {k : U → Prop} : atS (x0 :: x1 :: x2 :: x3 :: x4 :: x5 :: x6 :: x7 :: x8 :: x9 :: x10 :: x11 :: x12 :: x13 :: some u :: r) 14 k = k u := id rfl
theorem sV14 {x0 x1 x2 x3 x4 x5 x6 x7 x8 x9 x10 x11 x12 x13 : Option U} {y z : Option U} {r : Env} : List.set (x0 :: x1 :: x2 :: x3 :: x4 :: x5 :: x6 :: x7 :: x8 :: x9 :: x10 :: x11 :: x12 :: x13 :: y :: r) 14 z = x0 :: x1 :: x2 :: x3 :: x4 :: x5 :: x6 :: x7 :: x8 :: x9 :: x10 :: x11 :: x12 :: x13 :: z :: r := id rfl
theorem aV15 {x0 x1 x2 x3 x4 x5 x6 x7 x8 x9 x10 x11 x12 x13 x14 : Option U} {u : U} {r : Env} {k : U → Prop} : atS (x0 :: x1 :: x2 :: x3 :: x4 :: x5 :: x6 :: x7 :: x8 :: x9 :: x10 :: x11 :: x12 :: x13 :: x14 :: some u :: r) 15 k = k u := id rfl
theorem sV15 {x0 x1 x2 x3 x4 x5 x6 x7 x8 x9 x10 x11 x12 x13 x14 : Option U} {y z : Option U} {r : Env} : List.set (x0 :: x1 :: x2 :: x3 :: x4 :: x5 :: x6 :: x7 :: x8 :: x9 :: x10 :: x11 :: x12 :: x13 :: x14 :: y :: r) 15 z = x0 :: x1 :: x2 :: x3 :: x4 :: x5 :: x6 :: x7 :: x8 :: x9 :: x10 :: x11 :: x12 :: x13 :: x14 :: z :: r := id rfl
theorem aV16 {x0 x1 x2 x3 x4 x5 x6 x7 x8 x9 x10 x11 x12 x13 x14 x15 : Option U} {u : U} {r : Env} {k : U → Prop} : atS (x0 :: x1 :: x2 :: x3 :: x4 :: x5 :: x6 :: x7 :: x8 :: x9 :: x10 :: x11 :: x12 :: x13 :: x14 :: x15 :: some u :: r) 16 k = k u := id rfl
theorem sV16 {x0 x1 x2 x3 x4 x5 x6 x7 x8 x9 x10 x11 x12 x13 x14 x15 : Option U} {y z : Option U} {r : Env} : List.set (x0 :: x1 :: x2 :: x3 :: x4 :: x5 :: x6 :: x7 :: x8 :: x9 :: x10 :: x11 :: x12 :: x13 :: x14 :: x15 :: y :: r) 16 z = x0 :: x1 :: x2 :: x3 :: x4 :: x5 :: x6 :: x7 :: x8 :: x9 :: x10 :: x11 :: x12 :: x13 :: x14 :: x15 :: z :: r := id rfl
theorem aV17 {x0 x1 x2 x3 x4 x5 x6 x7 x8 x9 x10 x11 x12 x13 x14 x15 x16 : Option U} {u : U} {r : Env} {k : U → Prop} : atS (x0 :: x1 :: x2 :: x3 :: x4 :: x5 :: x6 :: x7 :: x8 :: x9 :: x10 :: x11 :: x12 :: x13 :: x14 :: x15 :: x16 :: some u :: r) 17 k = k u := id rfl
theorem sV17 {x0 x1 x2 x3 x4 x5 x6 x7 x8 x9 x10 x11 x12 x13 x14 x15 x16 : Option U} {y z : Option U} {r : Env} : List.set (x0 :: x1 :: x2 :: x3 :: x4 :: x5 :: x6 :: x7 :: x8 :: x9 :: x10 :: x11 :: x12 :: x13 :: x14 :: x15 :: x16 :: y :: r) 17 z = x0 :: x1 :: x2 :: x3 :: x4 :: x5 :: x6 :: x7 :: x8 :: x9 :: x10 :: x11 :: x12 :: x13 :: x14 :: x15 :: x16 :: z :: r := id rfl
theorem aV18 {x0 x1 x2 x3 x4 x5 x6 x7 x8 x9 x10 x11 x12 x13 x14 x15 x16 x17 : Option U} {u : U} {r : Env} {k : U → Prop} : atS (x0 :: x1 :: x2 :: x3 :: x4 :: x5 :: x6 :: x7 :: x8 :: x9 :: x10 :: x11 :: x12 :: x13 :: x14 :: x15 :: x16 :: x17 :: some u :: r) 18 k = k u := id rfl
theorem sV18 {x0 x1 x2 x3 x4 x5 x6 x7 x8 x9 x10 x11 x12 x13 x14 x15 x16 x17 : Option U} {y z : Option U} {r : Env} : List.set (x0 :: x1 :: x2 :: x3 :: x4 :: x5 :: x6 :: x7 :: x8 :: x9 :: x10 :: x11 :: x12 :: x13 :: x14 :: x15 :: x16 :: x17 :: y :: r) 18 z = x0 :: x1 :: x2 :: x3 :: x4 :: x5 :: x6 :: x7 :: x8 :: x9 :: x10 :: x11 :: x12 :: x13 :: x14 :: x15 :: x16 :: x17 :: z :: r := id rfl
theorem aV19 {x0 x1 x2 x3 x4 x5 x6 x7 x8 x9 x10 x11 x12 x13 x14 x15 x16 x17 x18 : Option U} {u : U} {r : Env} {k : U → Prop} : atS (x0 :: x1 :: x2 :: x3 :: x4 :: x5 :: x6 :: x7 :: x8 :: x9 :: x10 :: x11 :: x12 :: x13 :: x14 :: x15 :: x16 :: x17 :: x18 :: some u :: r) 19 k = k u := id rfl
theorem sV19 {x0 x1 x2 x3 x4 x5 x6 x7 x8 x9 x10 x11 x12 x13 x14 x15 x16 x17 x18 : Option U} {y z : Option U} {r : Env} : List.set (x0 :: x1 :: x2 :: x3 :: x4 :: x5 :: x6 :: x7 :: x8 :: x9 :: x10 :: x11 :: x12 :: x13 :: x14 :: x15 :: x16 :: x17 :: x18 :: y :: r) 19 z = x0 :: x1 :: x2 :: x3 :: x4 :: x5 :: x6 :: x7 :: x8 :: x9 :: x10 :: x11 :: x12 :: x13 :: x14 :: x15 :: x16 :: x17 :: x18 :: z :: r := id rfl
theorem aV20 {x0 x1 x2 x3 x4 x5 x6 x7 x8 x9 x10 x11 x12 x13 x14 x15 x16 x17 x18 x19 : Option U} {u : U} {r : Env} {k : U → Prop} : atS (x0 :: x1 :: x2 :: x3 :: x4 :: x5 :: x6 :: x7 :: x8 :: x9 :: x10 :: x11 :: x12 :: x13 :: x14 :: x15 :: x16 :: x17 :: x18 :: x19 :: some u :: r) 20 k = k u := id rfl
theorem sV20 {x0 x1 x2 x3 x4 x5 x6 x7 x8 x9 x10 x11 x12 x13 x14 x15 x16 x17 x18 x19 : Option U} {y z : Option U} {r : Env} : List.set (x0 :: x1 :: x2 :: x3 :: x4 :: x5 :: x6 :: x7 :: x8 :: x9 :: x10 :: x11 :: x12 :: x13 :: x14 :: x15 :: x16 :: x17 :: x18 :: x19 :: y :: r) 20 z = x0 :: x1 :: x2 :: x3 :: x4 :: x5 :: x6 :: x7 :: x8 :: x9 :: x10 :: x11 :: x12 :: x13 :: x14 :: x15 :: x16 :: x17 :: x18 :: x19 :: z :: r := id rfl
theorem aV21 {x0 x1 x2 x3 x4 x5 x6 x7 x8 x9 x10 x11 x12 x13 x14 x15 x16 x17 x18 x19 x20 : Option U} {u : U} {r : Env} {k : U → Prop} : atS (x0 :: x1 :: x2 :: x3 :: x4 :: x5 :: x6 :: x7 :: x8 :: x9 :: x10 :: x11 :: x12 :: x13 :: x14 :: x15 :: x16 :: x17 :: x18 :: x19 :: x20 :: some u :: r) 21 k = k u := id rfl
theorem sV21 {x0 x1 x2 x3 x4 x5 x6 x7 x8 x9 x10 x11 x12 x13 x14 x15 x16 x17 x18 x19 x20 : Option U} {y z : Option U} {r : Env} : List.set (x0 :: x1 :: x2 :: x3 :: x4 :: x5 :: x6 :: x7 :: x8 :: x9 :: x10 :: x11 :: x12 :: x13 :: x14 :: x15 :: x16 :: x17 :: x18 :: x19 :: x20 :: y :: r) 21 z = x0 :: x1 :: x2 :: x3 :: x4 :: x5 :: x6 :: x7 :: x8 :: x9 :: x10 :: x11 :: x12 :: x13 :: x14 :: x15 :: x16 :: x17 :: x18 :: x19 :: x20 :: z :: r := id rfl
theorem aV22 {x0 x1 x2 x3 x4 x5 x6 x7 x8 x9 x10 x11 x12 x13 x14 x15 x16 x17 x18 x19 x20 x21 : Option U} {u : U} {r : Env} {k : U → Prop} : atS (x0 :: x1 :: x2 :: x3 :: x4 :: x5 :: x6 :: x7 :: x8 :: x9 :: x10 :: x11 :: x12 :: x13 :: x14 :: x15 :: x16 :: x17 :: x18 :: x19 :: x20 :: x21 :: some u :: r) 22 k = k u := id rfl
theorem sV22 {x0 x1 x2 x3 x4 x5 x6 x7 x8 x9 x10 x11 x12 x13 x14 x15 x16 x17 x18 x19 x20 x21 : Option U} {y z : Option U} {r : Env} : List.set (x0 :: x1 :: x2 :: x3 :: x4 :: x5 :: x6 :: x7 :: x8 :: x9 :: x10 :: x11 :: x12 :: x13 :: x14 :: x15 :: x16 :: x17 :: x18 :: x19 :: x20 :: x21 :: y :: r) 22 z = x0 :: x1 :: x2 :: x3 :: x4 :: x5 :: x6 :: x7 :: x8 :: x9 :: x10 :: x11 :: x12 :: x13 :: x14 :: x15 :: x16 :: x17 :: x18 :: x19 :: x20 :: x21 :: z :: r := id rfl
theorem aV23 {x0 x1 x2 x3 x4 x5 x6 x7 x8 x9 x10 x11 x12 x13 x14 x15 x16 x17 x18 x19 x20 x21 x22 : Option U} {u : U} {r : Env} {k : U → Prop} : atS (x0 :: x1 :: x2 :: x3 :: x4 :: x5 :: x6 :: x7 :: x8 :: x9 :: x10 :: x11 :: x12 :: x13 :: x14 :: x15 :: x16 :: x17 :: x18 :: x19 :: x20 :: x21 :: x22 :: some u :: r) 23 k = k u := id rfl
theorem sV23 {x0 x1 x2 x3 x4 x5 x6 x7 x8 x9 x10 x11 x12 x13 x14 x15 x16 x17 x18 x19 x20 x21 x22 : Option U} {y z : Option U} {r : Env} : List.set (x0 :: x1 :: x2 :: x3 :: x4 :: x5 :: x6 :: x7 :: x8 :: x9 :: x10 :: x11 :: x12 :: x13 :: x14 :: x15 :: x16 :: x17 :: x18 :: x19 :: x20 :: x21 :: x22 :: y :: r) 23 z = x0 :: x1 :: x2 :: x3 :: x4 :: x5 :: x6 :: x7 :: x8 :: x9 :: x10 :: x11 :: x12 :: x13 :: x14 :: x15 :: x16 :: x17 :: x18 :: x19 :: x20 :: x21 :: x22 :: z :: r := id rfl
theorem aV24 {x0 x1 x2 x3 x4 x5 x6 x7 x8 x9 x10 x11 x12 x13 x14 x15 x16 x17 x18 x19 x20 x21 x22 x23 : Option U} {u : U} {r : Env} {k : U → Prop} : atS (x0 :: x1 :: x2 :: x3 :: x4 :: x5 :: x6 :: x7 :: x8 :: x9 :: x10 :: x11 :: x12 :: x13 :: x14 :: x15 :: x16 :: x17 :: x18 :: x19 :: x20 :: x21 :: x22 :: x23 :: some u :: r) 24 k = k u := id rfl
theorem sV24 {x0 x1 x2 x3 x4 x5 x6 x7 x8 x9 x10 x11 x12 x13 x14 x15 x16 x17 x18 x19 x20 x21 x22 x23 : Option U} {y z : Option U} {r : Env} : List.set (x0 :: x1 :: x2 :: x3 :: x4 :: x5 :: x6 :: x7 :: x8 :: x9 :: x10 :: x11 :: x12 :: x13 :: x14 :: x15 :: x16 :: x17 :: x18 :: x19 :: x20 :: x21 :: x22 :: x23 :: y :: r) 24 z = x0 :: x1 :: x2 :: x3 :: x4 :: x5 :: x6 :: x7 :: x8 :: x9 :: x10 :: x11 :: x12 :: x13 :: x14 :: x15 :: x16 :: x17 :: x18 :: x19 :: x20 :: x21 :: x22 :: x23 :: z :: r := id rfl
theorem aV25 {x0 x1 x2 x3 x4 x5 x6 x7 x8 x9 x10 x11 x12 x13 x14 x15 x16 x17 x18 x19 x20 x21 x22 x23 x24 : Option U} {u : U} {r : Env} {k : U → Prop} : atS (x0 :: x1 :: x2 :: x3 :: x4 :: x5 :: x6 :: x7 :: x8 :: x9 :: x10 :: x11 :: x12 :: x13 :: x14 :: x15 :: x16 :: x17 :: x18 :: x19 :: x20 :: x21 :: x22 :: x23 :: x24 :: some u :: r) 25 k = k u := id rfl
theorem sV25 {x0 x1 x2 x3 x4 x5 x6 x7 x8 x9 x10 x11 x12 x13 x14 x15 x16 x17 x18 x19 x20 x21 x22 x23 x24 : Option U} {y z : Option U} {r : Env} : List.set (x0 :: x1 :: x2 :: x3 :: x4 :: x5 :: x6 :: x7 :: x8 :: x9 :: x10 :: x11 :: x12 :: x13 :: x14 :: x15 :: x16 :: x17 :: x18 :: x19 :: x20 :: x21 :: x22 :: x23 :: x24 :: y :: r) 25 z = x0 :: x1 :: x2 :: x3 :: x4 :: x5 :: x6 :: x7 :: x8 :: x9 :: x10 :: x11 :: x12 :: x13 :: x14 :: x15 :: x16 :: x17 :: x18 :: x19 :: x20 :: x21 :: x22 :: x23 :: x24 :: z :: r := id rfl
theorem aV26 {x0 x1 x2 x3 x4 x5 x6 x7 x8 x9 x10 x11 x12 x13 x14 x15 x16 x17 x18 x19 x20 x21 x22 x23 x24 x25 : Option U} {u : U} {r : Env} {k : U → Prop} : atS (x0 :: x1 :: x2 :: x3 :: x4 :: x5 :: x6 :: x7 :: x8 :: x9 :: x10 :: x11 :: x12 :: x13 :: x14 :: x15 :: x16 :: x17 :: x18 :: x19 :: x20 :: x21 :: x22 :: x23 :: x24 :: x25 :: some u :: r) 26 k = k u := id rfl
theorem sV26 {x0 x1 x2 x3 x4 x5 x6 x7 x8 x9 x10 x11 x12 x13 x14 x15 x16 x17 x18 x19 x20 x21 x22 x23 x24 x25 : Option U} {y z : Option U} {r : Env} : List.set (x0 :: x1 :: x2 :: x3 :: x4 :: x5 :: x6 :: x7 :: x8 :: x9 :: x10 :: x11 :: x12 :: x13 :: x14 :: x15 :: x16 :: x17 :: x18 :: x19 :: x20 :: x21 :: x22 :: x23 :: x24 :: x25 :: y :: r) 26 z = x0 :: x1 :: x2 :: x3 :: x4 :: x5 :: x6 :: x7 :: x8 :: x9 :: x10 :: x11 :: x12 :: x13 :: x14 :: x15 :: x16 :: x17 :: x18 :: x19 :: x20 :: x21 :: x22 :: x23 :: x24 :: x25 :: z :: r := id rfl
theorem aV27 {x0 x1 x2 x3 x4 x5 x6 x7 x8 x9 x10 x11 x12 x13 x14 x15 x16 x17 x18 x19 x20 x21 x22 x23 x24 x25 x26 : Option U} {u : U} {r : Env} {k : U → Prop} : atS (x0 :: x1 :: x2 :: x3 :: x4 :: x5 :: x6 :: x7 :: x8 :: x9 :: x10 :: x11 :: x12 :: x13 :: x14 :: x15 :: x16 :: x17 :: x18 :: x19 :: x20 :: x21 :: x22 :: x23 :: x24 :: x25 :: x26 :: some u :: r) 27 k = k u := id rfl
theorem sV27 {x0 x1 x2 x3 x4 x5 x6 x7 x8 x9 x10 x11 x12 x13 x14 x15 x16 x17 x18 x19 x20 x21 x22 x23 x24 x25 x26 : Option U} {y z : Option U} {r : Env} : List.set (x0 :: x1 :: x2 :: x3 :: x4 :: x5 :: x6 :: x7 :: x8 :: x9 :: x10 :: x11 :: x12 :: x13 :: x14 :: x15 :: x16 :: x17 :: x18 :: x19 :: x20 :: x21 :: x22 :: x23 :: x24 :: x25 :: x26 :: y :: r) 27 z = x0 :: x1 :: x2 :: x3 :: x4 :: x5 :: x6 :: x7 :: x8 :: x9 :: x10 :: x11 :: x12 :: x13 :: x14 :: x15 :: x16 :: x17 :: x18 :: x19 :: x20 :: x21 :: x22 :: x23 :: x24 :: x25 :: x26 :: z :: r := id rfl
theorem aV28 {x0 x1 x2 x3 x4 x5 x6 x7 x8 x9 x10 x11 x12 x13 x14 x15 x16 x17 x18 x19 x20 x21 x22 x23 x24 x25 x26 x27 : Option U} {u : U} {r : Env} {k : U → Prop} : atS (x0 :: x1 :: x2 :: x3 :: x4 :: x5 :: x6 :: x7 :: x8 :: x9 :: x10 :: x11 :: x12 :: x13 :: x14 :: x15 :: x16 :: x17 :: x18 :: x19 :: x20 :: x21 :: x22 :: x23 :: x24 :: x25 :: x26 :: x27 :: some u :: r) 28 k = k u := id rfl
theorem sV28 {x0 x1 x2 x3 x4 x5 x6 x7 x8 x9 x10 x11 x12 x13 x14 x15 x16 x17 x18 x19 x20 x21 x22 x23 x24 x25 x26 x27 : Option U} {y z : Option U} {r : Env} : List.set (x0 :: x1 :: x2 :: x3 :: x4 :: x5 :: x6 :: x7 :: x8 :: x9 :: x10 :: x11 :: x12 :: x13 :: x14 :: x15 :: x16 :: x17 :: x18 :: x19 :: x20 :: x21 :: x22 :: x23 :: x24 :: x25 :: x26 :: x27 :: y :: r) 28 z = x0 :: x1 :: x2 :: x3 :: x4 :: x5 :: x6 :: x7 :: x8 :: x9 :: x10 :: x11 :: x12 :: x13 :: x14 :: x15 :: x16 :: x17 :: x18 :: x19 :: x20 :: x21 :: x22 :: x23 :: x24 :: x25 :: x26 :: x27 :: z :: r := id rfl
theorem aV29 {x0 x1 x2 x3 x4 x5 x6 x7 x8 x9 x10 x11 x12 x13 x14 x15 x16 x17 x18 x19 x20 x21 x22 x23 x24 x25 x26 x27 x28 : Option U} {u : U} {r : Env} {k : U → Prop} : atS (x0 :: x1 :: x2 :: x3 :: x4 :: x5 :: x6 :: x7 :: x8 :: x9 :: x10 :: x11 :: x12 :: x13 :: x14 :: x15 :: x16 :: x17 :: x18 :: x19 :: x20 :: x21 :: x22 :: x23 :: x24 :: x25 :: x26 :: x27 :: x28 :: some u :: r) 29 k = k u := id rfl
theorem sV29 {x0 x1 x2 x3 x4 x5 x6 x7 x8 x9 x10 x11 x12 x13 x14 x15 x16 x17 x18 x19 x20 x21 x22 x23 x24 x25 x26 x27 x28 : Option U} {y z : Option U} {r : Env} : List.set (x0 :: x1 :: x2 :: x3 :: x4 :: x5 :: x6 :: x7 :: x8 :: x9 :: x10 :: x11 :: x12 :: x13 :: x14 :: x15 :: x16 :: x17 :: x18 :: x19 :: x20 :: x21 :: x22 :: x23 :: x24 :: x25 :: x26 :: x27 :: x28 :: y :: r) 29 z = x0 :: x1 :: x2 :: x3 :: x4 :: x5 :: x6 :: x7 :: x8 :: x9 :: x10 :: x11 :: x12 :: x13 :: x14 :: x15 :: x16 :: x17 :: x18 :: x19 :: x20 :: x21 :: x22 :: x23 :: x24 :: x25 :: x26 :: x27 :: x28 :: z :: r := id rfl
/-- one step at the head -/
theorem go {β : Type} {P P' : β → Prop} {h : β} (e : P = P') (p : P' h) : P h := by rw [e]; exact p
theorem go0 {P P' : Prop} (e : P = P') (p : P') : P := by rw [e]; exact p
theorem wp_ifT {α : Type} {a b : M α} {Q : α → VH → Prop} : wp (if true = true then a else b) Q = wp a Q := by rw [if_pos rfl]
theorem wp_ifF {α : Type} {a b : M α} {Q : α → VH → Prop} : wp (if false = true then a else b) Q = wp b Q := by rw [if_neg Bool.false_ne_true]
theorem ck_T {c : EM} {g : O2} {η : Env} {v : U} {Q : U → VH → Prop} : wp (chainK c g η v (.bl true)) Q = wp (c η) (fun w => wp (g v w) Q) := by rw [wp_ck, if_pos rfl]
theorem ck_F {c : EM} {g : O2} {η : Env} {v : U} {Q : U → VH → Prop} : wp (chainK c g η v (.bl false)) Q = Q (.bl false) := by rw [wp_ck, if_neg Bool.false_ne_true]
theorem skV0 {y z : Option U} {r : Env} {b : SM} {S : Fl → VH → Prop} : seqK b S (.next (List.set (y :: r) 0 z)) = wp (b (z :: r)) S := id rfl
theorem tgV0 {y : Option U} {u : U} {r : Env} {K : Env → VH → Prop} : wp (tgM (.one 0) u (y :: r)) K = K (some u :: r) := id rfl
theorem skV1 {x0 : Option U} {y z : Option U} {r : Env} {b : SM} {S : Fl → VH → Prop} : seqK b S (.next (List.set (x0 :: y :: r) 1 z)) = wp (b (x0 :: z :: r)) S := id rfl
theorem tgV1 {x0 : Option U} {y : Option U} {u : U} {r : Env} {K : Env → VH → Prop} : wp (tgM (.one 1) u (x0 :: y :: r)) K = K (x0 :: some u :: r) := id rfl
theorem skV2 {x0 x1 : Option U} {y z : Option U} {r : Env} {b : SM} {S : Fl → VH → Prop} : seqK b S (.next (List.set (x0 :: x1 :: y :: r) 2 z)) = wp (b (x0 :: x1 :: z :: r)) S := id rfl
theorem tgV2 {x0 x1 : Option U} {y : Option U} {u : U} {r : Env} {K : Env → VH → Prop} : wp (tgM (.one 2) u (x0 :: x1 :: y :: r)) K = K (x0 :: x1 :: some u :: r) := id rfl
theorem skV3 {x0 x1 x2 : Option U} {y z : Option U} {r : Env} {b : SM} {S : Fl → VH → Prop} : seqK b S (.next (List.set (x0 :: x1 :: x2 :: y :: r) 3 z)) = wp (b (x0 :: x1 :: x2 :: z :: r)) S := id rfl
theorem tgV3 {x0 x1 x2 : Option U} {y : Option U} {u : U} {r : Env} {K : Env → VH → Prop} : wp (tgM (.one 3) u (x0 :: x1 :: x2 :: y :: r)) K = K (x0 :: x1 :: x2 :: some u :: r) := id rfl
theorem skV4 {x0 x1 x2 x3 : Option U} {y z : Option U} {r : Env} {b : SM} {S : Fl → VH → Prop} : seqK b S (.next (List.set (x0 :: x1 :: x2 :: x3 :: y :: r) 4 z)) = wp (b (x0 :: x1 :: x2 :: x3 :: z :: r)) S := id rfl
theorem tgV4 {x0 x1 x2 x3 : Option U} {y : Option U} {u : U} {r : Env} {K : Env → VH → Prop} : wp (tgM (.one 4) u (x0 :: x1 :: x2 :: x3 :: y :: r)) K = K (x0 :: x1 :: x2 :: x3 :: some u :: r) := id rfl
theorem skV5 {x0 x1 x2 x3 x4 : Option U} {y z : Option U} {r : Env} {b : SM} {S : Fl → VH → Prop} : seqK b S (.next (List.set (x0 :: x1 :: x2 :: x3 :: x4 :: y :: r) 5 z)) = wp (b (x0 :: x1 :: x2 :: x3 :: x4 :: z :: r)) S := id rfl
theorem tgV5 {x0 x1 x2 x3 x4 : Option U} {y : Option U} {u : U} {r : Env} {K : Env → VH → Prop} : wp (tgM (.one 5) u (x0 :: x1 :: x2 :: x3 :: x4 :: y :: r)) K = K (x0 :: x1 :: x2 :: x3 :: x4 :: some u :: r) := id rfl
theorem skV6 {x0 x1 x2 x3 x4 x5 : Option U} {y z : Option U} {r : Env} {b : SM} {S : Fl → VH → Prop} : seqK b S (.next (List.set (x0 :: x1 :: x2 :: x3 :: x4 :: x5 :: y :: r) 6 z)) = wp (b (x0 :: x1 :: x2 :: x3 :: x4 :: x5 :: z :: r)) S := id rfl
theorem tgV6 {x0 x1 x2 x3 x4 x5 : Option U} {y : Option U} {u : U} {r : Env} {K : Env → VH → Prop} : wp (tgM (.one 6) u (x0 :: x1 :: x2 :: x3 :: x4 :: x5 :: y :: r)) K = K (x0 :: x1 :: x2 :: x3 :: x4 :: x5 :: some u :: r) := id rfl
theorem skV7 {x0 x1 x2 x3 x4 x5 x6 : Option U} {y z : Option U} {r : Env} {b : SM} {S : Fl → VH → Prop} : seqK b S (.next (List.set (x0 :: x1 :: x2 :: x3 :: x4 :: x5 :: x6 :: y :: r) 7 z)) = wp (b (x0 :: x1 :: x2 :: x3 :: x4 :: x5 :: x6 :: z :: r)) S := id rfl
theorem tgV7 {x0 x1 x2 x3 x4 x5 x6 : Option U} {y : Option U} {u : U} {r : Env} {K : Env → VH → Prop} : wp (tgM (.one 7) u (x0 :: x1 :: x2 :: x3 :: x4 :: x5 :: x6 :: y :: r)) K = K (x0 :: x1 :: x2 :: x3 :: x4 :: x5 :: x6 :: some u :: r) := id rfl
theorem skV8 {x0 x1 x2 x3 x4 x5 x6 x7 : Option U} {y z : Option U} {r : Env} {b : SM} {S : Fl → VH → Prop} : seqK b S (.next (List.set (x0 :: x1 :: x2 :: x3 :: x4 :: x5 :: x6 :: x7 :: y :: r) 8 z)) = wp (b (x0 :: x1 :: x2 :: x3 :: x4 :: x5 :: x6 :: x7 :: z :: r)) S := id rfl
theorem tgV8 {x0 x1 x2 x3 x4 x5 x6 x7 : Option U} {y : Option U} {u : U} {r : Env} {K : Env → VH → Prop} : wp (tgM (.one 8) u (x0 :: x1 :: x2 :: x3 :: x4 :: x5 :: x6 :: x7 :: y :: r)) K = K (x0 :: x1 :: x2 :: x3 :: x4 :: x5 :: x6 :: x7 :: some u :: r) := id rfl
theorem skV9 {x0 x1 x2 x3 x4 x5 x6 x7 x8 : Option U} {y z : Option U} {r : Env} {b : SM} {S : Fl → VH → Prop} : seqK b S (.next (List.set (x0 :: x1 :: x2 :: x3 :: x4 :: x5 :: x6 :: x7 :: x8 :: y :: r) 9 z)) = wp (b (x0 :: x1 :: x2 :: x3 :: x4 :: x5 :: x6 :: x7 :: x8 :: z :: r)) S := id rfl
theorem tgV9 {x0 x1 x2 x3 x4 x5 x6 x7 x8 : Option U} {y : Option U} {u : U} {r : Env} {K : Env → VH → Prop} : wp (tgM (.one 9) u (x0 :: x1 :: x2 :: x3 :: x4 :: x5 :: x6 :: x7 :: x8 :: y :: r)) K = K (x0 :: x1 :: x2 :: x3 :: x4 :: x5 :: x6 :: x7 :: x8 :: some u :: r) := id rfl
theorem skV10 {x0 x1 x2 x3 x4 x5 x6 x7 x8 x9 : Option U} {y z : Option U} {r : Env} {b : SM} {S : Fl → VH → Prop} : seqK b S (.next (List.set (x0 :: x1 :: x2 :: x3 :: x4 :: x5 :: x6 :: x7 :: x8 :: x9 :: y :: r) 10 z)) = wp (b (x0 :: x1 :: x2 :: x3 :: x4 :: x5 :: x6 :: x7 :: x8 :: x9 :: z :: r)) S := id rfl
theorem tgV10 {x0 x1 x2 x3 x4 x5 x6 x7 x8 x9 : Option U} {y : Option U} {u : U} {r : Env} {K : Env → VH → Prop} : wp (tgM (.one 10) u (x0 :: x1 :: x2 :: x3 :: x4 :: x5 :: x6 :: x7 :: x8 :: x9 :: y :: r)) K = K (x0 :: x1 :: x2 :: x3 :: x4 :: x5 :: x6 :: x7 :: x8 :: x9 :: some u :: r) := id rfl
theorem skV11 {x0 x1 x2 x3 x4 x5 x6 x7 x8 x9 x10 : Option U} {y z : Option U} {r : Env} {b : SM} {S : Fl → VH → Prop} : seqK b S (.next (List.set (x0 :: x1 :: x2 :: x3 :: x4 :: x5 :: x6 :: x7 :: x8 :: x9 :: x10 :: y :: r) 11 z)) = wp (b (x0 :: x1 :: x2 :: x3 :: x4 :: x5 :: x6 :: x7 :: x8 :: x9 :: x10 :: z :: r)) S := id rfl
theorem tgV11 {x0 x1 x2 x3 x4 x5 x6 x7 x8 x9 x10 : Option U} {y : Option U} {u : U} {r : Env} {K : Env → VH → Prop} : wp (tgM (.one 11) u (x0 :: x1 :: x2 :: x3 :: x4 :: x5 :: x6 :: x7 :: x8 :: x9 :: x10 :: y :: r)) K = K (x0 :: x1 :: x2 :: x3 :: x4 :: x5 :: x6 :: x7 :: x8 :: x9 :: x10 :: some u :: r) := id rfl
theorem skV12 {x0 x1 x2 x3 x4 x5 x6 x7 x8 x9 x10 x11 : Option U} {y z : Option U} {r : Env} {b : SM} {S : Fl → VH → Prop} : seqK b S (.next (List.set (x0 :: x1 :: x2 :: x3 :: x4 :: x5 :: x6 :: x7 :: x8 :: x9 :: x10 :: x11 :: y :: r) 12 z)) = wp (b (x0 :: x1 :: x2 :: x3 :: x4 :: x5 :: x6 :: x7 :: x8 :: x9 :: x10 :: x11 :: z :: r)) S := id rfl
theorem tgV12 {x0 x1 x2 x3 x4 x5 x6 x7 x8 x9 x10 x11 : Option U} {y : Option U} {u : U} {r : Env} {K : Env → VH → Prop} : wp (tgM (.one 12) u (x0 :: x1 :: x2 :: x3 :: x4 :: x5 :: x6 :: x7 :: x8 :: x9 :: x10 :: x11 :: y :: r)) K = K (x0 :: x1 :: x2 :: x3 :: x4 :: x5 :: x6 :: x7 :: x8 :: x9 :: x10 :: x11 :: some u :: r) := id rfl
theorem skV13 {x0 x1 x2 x3 x4 x5 x6 x7 x8 x9 x10 x11 x12 : Option U} {y z : Option U} {r : Env} {b : SM} {S : Fl → VH → Prop} : seqK b S (.next (List.set (x0 :: x1 :: x2 :: x3 :: x4 :: x5 :: x6 :: x7 :: x8 :: x9 :: x10 :: x11 :: x12 :: y :: r) 13 z)) = wp (b (x0 :: x1 :: x2 :: x3 :: x4 :: x5 :: x6 :: x7 :: x8 :: x9 :: x10 :: x11 :: x12 :: z :: r)) S := id rfl
theorem tgV13 {x0 x1 x2 x3 x4 x5 x6 x7 x8 x9 x10 x11 x12 : Option U} {y : Option U} {u : U} {r : Env} {K : Env → VH → Prop} : wp (tgM (.one 13) u (x0 :: x1 :: x2 :: x3 :: x4 :: x5 :: x6 :: x7 :: x8 :: x9 :: x10 :: x11 :: x12 :: y :: r)) K = K (x0 :: x1 :: x2 :: x3 :: x4 :: x5 :: x6 :: x7 :: x8 :: x9 :: x10 :: x11 :: x12 :: some u :: r) := id rfl
theorem skV14 {x0 x1 x2 x3 x4 x5 x6 x7 x8 x9 x10 x11 x12 x13 : Option U} {y z : Option U} {r : Env} {b : SM} {S : Fl → VH → Prop} : seqK b S (.next (List.set (x0 :: x1 :: x2 :: x3 :: x4 :: x5 :: x6 :: x7 :: x8 :: x9 :: x10 :: x11 :: x12 :: x13 :: y :: r) 14 z)) = wp (b (x0 :: x1 :: x2 :: x3 :: x4 :: x5 :: x6 :: x7 :: x8 :: x9 :: x10 :: x11 :: x12 :: x13 :: z :: r)) S := id rfl
theorem tgV14 {x0 x1 x2 x3 x4 x5 x6 x7 x8 x9 x10 x11 x12 x13 : Option U} {y : Option U} {u : U} {r : Env} {K : Env → VH → Prop} : wp (tgM (.one 14) u (x0 :: x1 :: x2 :: x3 :: x4 :: x5 :: x6 :: x7 :: x8 :: x9 :: x10 :: x11 :: x12 :: x13 :: y :: r)) K = K (x0 :: x1 :: x2 :: x3 :: x4 :: x5 :: x6 :: x7 :: x8 :: x9 :: x10 :: x11 :: x12 :: x13 :: some u :: r) := id rfl
theorem skV15 {x0 x1 x2 x3 x4 x5 x6 x7 x8 x9 x10 x11 x12 x13 x14 : Option U} {y z : Option U} {r : Env} {b : SM} {S : Fl → VH → Prop} : seqK b S (.next (List.set (x0 :: x1 :: x2 :: x3 :: x4 :: x5 :: x6 :: x7 :: x8 :: x9 :: x10 :: x11 :: x12 :: x13 :: x14 :: y :: r) 15 z)) = wp (b (x0 :: x1 :: x2 :: x3 :: x4 :: x5 :: x6 :: x7 :: x8 :: x9 :: x10 :: x11 :: x12 :: x13 :: x14 :: z :: r)) S := id rfl
theorem tgV15 {x0 x1 x2 x3 x4 x5 x6 x7 x8 x9 x10 x11 x12 x13 x14 : Option U} {y : Option U} {u : U} {r : Env} {K : Env → VH → Prop} : wp (tgM (.one 15) u (x0 :: x1 :: x2 :: x3 :: x4 :: x5 :: x6 :: x7 :: x8 :: x9 :: x10 :: x11 :: x12 :: x13 :: x14 :: y :: r)) K = K (x0 :: x1 :: x2 :: x3 :: x4 :: x5 :: x6 :: x7 :: x8 :: x9 :: x10 :: x11 :: x12 :: x13 :: x14 :: some u :: r) := id rfl
theorem skV16 {x0 x1 x2 x3 x4 x5 x6 x7 x8 x9 x10 x11 x12 x13 x14 x15 : Option U} {y z : Option U} {r : Env} {b : SM} {S : Fl → VH → Prop} : seqK b S (.next (List.set (x0 :: x1 :: x2 :: x3 :: x4 :: x5 :: x6 :: x7 :: x8 :: x9 :: x10 :: x11 :: x12 :: x13 :: x14 :: x15 :: y :: r) 16 z)) = wp (b (x0 :: x1 :: x2 :: x3 :: x4 :: x5 :: x6 :: x7 :: x8 :: x9 :: x10 :: x11 :: x12 :: x13 :: x14 :: x15 :: z :: r)) S := id rfl
theorem tgV16 {x0 x1 x2 x3 x4 x5 x6 x7 x8 x9 x10 x11 x12 x13 x14 x15 : Option U} {y : Option U} {u : U} {r : Env} {K : Env → VH → Prop} : wp (tgM (.one 16) u (x0 :: x1 :: x2 :: x3 :: x4 :: x5 :: x6 :: x7 :: x8 :: x9 :: x10 :: x11 :: x12 :: x13 :: x14 :: x15 :: y :: r)) K = K (x0 :: x1 :: x2 :: x3 :: x4 :: x5 :: x6 :: x7 :: x8 :: x9 :: x10 :: x11 :: x12 :: x13 :: x14 :: x15 :: some u :: r) := id rfl
theorem skV17 {x0 x1 x2 x3 x4 x5 x6 x7 x8 x9 x10 x11 x12 x13 x14 x15 x16 : Option U} {y z : Option U} {r : Env} {b : SM} {S : Fl → VH → Prop} : seqK b S (.next (List.set (x0 :: x1 :: x2 :: x3 :: x4 :: x5 :: x6 :: x7 :: x8 :: x9 :: x10 :: x11 :: x12 :: x13 :: x14 :: x15 :: x16 :: y :: r) 17 z)) = wp (b (x0 :: x1 :: x2 :: x3 :: x4 :: x5 :: x6 :: x7 :: x8 :: x9 :: x10 :: x11 :: x12 :: x13 :: x14 :: x15 :: x16 :: z :: r)) S := id rfl
theorem tgV17 {x0 x1 x2 x3 x4 x5 x6 x7 x8 x9 x10 x11 x12 x13 x14 x15 x16 : Option U} {y : Option U} {u : U} {r : Env} {K : Env → VH → Prop} : wp (tgM (.one 17) u (x0 :: x1 :: x2 :: x3 :: x4 :: x5 :: x6 :: x7 :: x8 :: x9 :: x10 :: x11 :: x12 :: x13 :: x14 :: x15 :: x16 :: y :: r)) K = K (x0 :: x1 :: x2 :: x3 :: x4 :: x5 :: x6 :: x7 :: x8 :: x9 :: x10 :: x11 :: x12 :: x13 :: x14 :: x15 :: x16 :: some u :: r) := id rfl
theorem skV18 {x0 x1 x2 x3 x4 x5 x6 x7 x8 x9 x10 x11 x12 x13 x14 x15 x16 x17 : Option U} {y z : Option U} {r : Env} {b : SM} {S : Fl → VH → Prop} : seqK b S (.next (List.set (x0 :: x1 :: x2 :: x3 :: x4 :: x5 :: x6 :: x7 :: x8 :: x9 :: x10 :: x11 :: x12 :: x13 :: x14 :: x15 :: x16 :: x17 :: y :: r) 18 z)) = wp (b (x0 :: x1 :: x2 :: x3 :: x4 :: x5 :: x6 :: x7 :: x8 :: x9 :: x10 :: x11 :: x12 :: x13 :: x14 :: x15 :: x16 :: x17 :: z :: r)) S := id rfl
theorem tgV18 {x0 x1 x2 x3 x4 x5 x6 x7 x8 x9 x10 x11 x12 x13 x14 x15 x16 x17 : Option U} {y : Option U} {u : U} {r : Env} {K : Env → VH → Prop} : wp (tgM (.one 18) u (x0 :: x1 :: x2 :: x3 :: x4 :: x5 :: x6 :: x7 :: x8 :: x9 :: x10 :: x11 :: x12 :: x13 :: x14 :: x15 :: x16 :: x17 :: y :: r)) K = K (x0 :: x1 :: x2 :: x3 :: x4 :: x5 :: x6 :: x7 :: x8 :: x9 :: x10 :: x11 :: x12 :: x13 :: x14 :: x15 :: x16 :: x17 :: some u :: r) := id rfl
theorem skV19 {x0 x1 x2 x3 x4 x5 x6 x7 x8 x9 x10 x11 x12 x13 x14 x15 x16 x17 x18 : Option U} {y z : Option U} {r : Env} {b : SM} {S : Fl → VH → Prop} : seqK b S (.next (List.set (x0 :: x1 :: x2 :: x3 :: x4 :: x5 :: x6 :: x7 :: x8 :: x9 :: x10 :: x11 :: x12 :: x13 :: x14 :: x15 :: x16 :: x17 :: x18 :: y :: r) 19 z)) = wp (b (x0 :: x1 :: x2 :: x3 :: x4 :: x5 :: x6 :: x7 :: x8 :: x9 :: x10 :: x11 :: x12 :: x13 :: x14 :: x15 :: x16 :: x17 :: x18 :: z :: r)) S := id rfl
theorem tgV19 {x0 x1 x2 x3 x4 x5 x6 x7 x8 x9 x10 x11 x12 x13 x14 x15 x16 x17 x18 : Option U} {y : Option U} {u : U} {r : Env} {K : Env → VH → Prop} : wp (tgM (.one 19) u (x0 :: x1 :: x2 :: x3 :: x4 :: x5 :: x6 :: x7 :: x8 :: x9 :: x10 :: x11 :: x12 :: x13 :: x14 :: x15 :: x16 :: x17 :: x18 :: y :: r)) K = K (x0 :: x1 :: x2 :: x3 :: x4 :: x5 :: x6 :: x7 :: x8 :: x9 :: x10 :: x11 :: x12 :: x13 :: x14 :: x15 :: x16 :: x17 :: x18 :: some u :: r) := id rfl
theorem skV20 {x0 x1 x2 x3 x4 x5 x6 x7 x8 x9 x10 x11 x12 x13 x14 x15 x16 x17 x18 x19 : Option U} {y z : Option U} {r : Env} {b : SM} {S : Fl → VH → Prop} : seqK b S (.next (List.set (x0 :: x1 :: x2 :: x3 :: x4 :: x5 :: x6 :: x7 :: x8 :: x9 :: x10 :: x11 :: x12 :: x13 :: x14 :: x15 :: x16 :: x17 :: x18 :: x19 :: y :: r) 20 z)) = wp (b (x0 :: x1 :: x2 :: x3 :: x4 :: x5 :: x6 :: x7 :: x8 :: x9 :: x10 :: x11 :: x12 :: x13 :: x14 :: x15 :: x16 :: x17 :: x18 :: x19 :: z :: r)) S := id rfl
theorem tgV20 {x0 x1 x2 x3 x4 x5 x6 x7 x8 x9 x10 x11 x12 x13 x14 x15 x16 x17 x18 x19 : Option U} {y : Option U} {u : U} {r : Env} {K : Env → VH → Prop} : wp (tgM (.one 20) u (x0 :: x1 :: x2 :: x3 :: x4 :: x5 :: x6 :: x7 :: x8 :: x9 :: x10 :: x11 :: x12 :: x13 :: x14 :: x15 :: x16 :: x17 :: x18 :: x19 :: y :: r)) K = K (x0 :: x1 :: x2 :: x3 :: x4 :: x5 :: x6 :: x7 :: x8 :: x9 :: x10 :: x11 :: x12 :: x13 :: x14 :: x15 :: x16 :: x17 :: x18 :: x19 :: some u :: r) := id rfl
theorem skV21 {x0 x1 x2 x3 x4 x5 x6 x7 x8 x9 x10 x11 x12 x13 x14 x15 x16 x17 x18 x19 x20 : Option U} {y z : Option U} {r : Env} {b : SM} {S : Fl → VH → Prop} : seqK b S (.next (List.set (x0 :: x1 :: x2 :: x3 :: x4 :: x5 :: x6 :: x7 :: x8 :: x9 :: x10 :: x11 :: x12 :: x13 :: x14 :: x15 :: x16 :: x17 :: x18 :: x19 :: x20 :: y :: r) 21 z)) = wp (b (x0 :: x1 :: x2 :: x3 :: x4 :: x5 :: x6 :: x7 :: x8 :: x9 :: x10 :: x11 :: x12 :: x13 :: x14 :: x15 :: x16 :: x17 :: x18 :: x19 :: x20 :: z :: r)) S := id rfl
theorem tgV21 {x0 x1 x2 x3 x4 x5 x6 x7 x8 x9 x10 x11 x12 x13 x14 x15 x16 x17 x18 x19 x20 : Option U} {y : Option U} {u : U} {r : Env} {K : Env → VH → Prop} : wp (tgM (.one 21) u (x0 :: x1 :: x2 :: x3 :: x4 :: x5 :: x6 :: x7 :: x8 :: x9 :: x10 :: x11 :: x12 :: x13 :: x14 :: x15 :: x16 :: x17 :: x18 :: x19 :: x20 :: y :: r)) K = K (x0 :: x1 :: x2 :: x3 :: x4 :: x5 :: x6 :: x7 :: x8 :: x9 :: x10 :: x11 :: x12 :: x13 :: x14 :: x15 :: x16 :: x17 :: x18 :: x19 :: x20 :: some u :: r) := id rfl
theorem skV22 {x0 x1 x2 x3 x4 x5 x6 x7 x8 x9 x10 x11 x12 x13 x14 x15 x16 x17 x18 x19 x20 x21 : Option U} {y z : Option U} {r : Env} {b : SM} {S : Fl → VH → Prop} : seqK b S (.next (List.set (x0 :: x1 :: x2 :: x3 :: x4 :: x5 :: x6 :: x7 :: x8 :: x9 :: x10 :: x11 :: x12 :: x13 :: x14 :: x15 :: x16 :: x17 :: x18 :: x19 :: x20 :: x21 :: y :: r) 22 z)) = wp (b (x0 :: x1 :: x2 :: x3 :: x4 :: x5 :: x6 :: x7 :: x8 :: x9 :: x10 :: x11 :: x12 :: x13 :: x14 :: x15 :: x16 :: x17 :: x18 :: x19 :: x20 :: x21 :: z :: r)) S := id rfl
theorem tgV22 {x0 x1 x2 x3 x4 x5 x6 x7 x8 x9 x10 x11 x12 x13 x14 x15 x16 x17 x18 x19 x20 x21 : Option U} {y : Option U} {u : U} {r : Env} {K : Env → VH → Prop} : wp (tgM (.one 22) u (x0 :: x1 :: x2 :: x3 :: x4 :: x5 :: x6 :: x7 :: x8 :: x9 :: x10 :: x11 :: x12 :: x13 :: x14 :: x15 :: x16 :: x17 :: x18 :: x19 :: x20 :: x21 :: y :: r)) K = K (x0 :: x1 :: x2 :: x3 :: x4 :: x5 :: x6 :: x7 :: x8 :: x9 :: x10 :: x11 :: x12 :: x13 :: x14 :: x15 :: x16 :: x17 :: x18 :: x19 :: x20 :: x21 :: some u :: r) := id rfl
theorem skV23 {x0 x1 x2 x3 x4 x5 x6 x7 x8 x9 x10 x11 x12 x13 x14 x15 x16 x17 x18 x19 x20 x21 x22 : Option U} {y z : Option U} {r : Env} {b : SM} {S : Fl → VH → Prop} : seqK b S (.next (List.set (x0 :: x1 :: x2 :: x3 :: x4 :: x5 :: x6 :: x7 :: x8 :: x9 :: x10 :: x11 :: x12 :: x13 :: x14 :: x15 :: x16 :: x17 :: x18 :: x19 :: x20 :: x21 :: x22 :: y :: r) 23 z)) = wp (b (x0 :: x1 :: x2 :: x3 :: x4 :: x5 :: x6 :: x7 :: x8 :: x9 :: x10 :: x11 :: x12 :: x13 :: x14 :: x15 :: x16 :: x17 :: x18 :: x19 :: x20 :: x21 :: x22 :: z :: r)) S := id rfl
theorem tgV23 {x0 x1 x2 x3 x4 x5 x6 x7 x8 x9 x10 x11 x12 x13 x14 x15 x16 x17 x18 x19 x20 x21 x22 : Option U} {y : Option U} {u : U} {r : Env} {K : Env → VH → Prop} : wp (tgM (.one 23) u (x0 :: x1 :: x2 :: x3 :: x4 :: x5 :: x6 :: x7 :: x8 :: x9 :: x10 :: x11 :: x12 :: x13 :: x14 :: x15 :: x16 :: x17 :: x18 :: x19 :: x20 :: x21 :: x22 :: y :: r)) K = K (x0 :: x1 :: x2 :: x3 :: x4 :: x5 :: x6 :: x7 :: x8 :: x9 :: x10 :: x11 :: x12 :: x13 :: x14 :: x15 :: x16 :: x17 :: x18 :: x19 :: x20 :: x21 :: x22 :: some u :: r) := id rfl
theorem skV24 {x0 x1 x2 x3 x4 x5 x6 x7 x8 x9 x10 x11 x12 x13 x14 x15 x16 x17 x18 x19 x20 x21 x22 x23 : Option U} {y z : Option U} {r : Env} {b : SM} {S : Fl → VH → Prop} : seqK b S (.next (List.set (x0 :: x1 :: x2 :: x3 :: x4 :: x5 :: x6 :: x7 :: x8 :: x9 :: x10 :: x11 :: x12 :: x13 :: x14 :: x15 :: x16 :: x17 :: x18 :: x19 :: x20 :: x21 :: x22 :: x23 :: y :: r) 24 z)) = wp (b (x0 :: x1 :: x2 :: x3 :: x4 :: x5 :: x6 :: x7 :: x8 :: x9 :: x10 :: x11 :: x12 :: x13 :: x14 :: x15 :: x16 :: x17 :: x18 :: x19 :: x20 :: x21 :: x22 :: x23 :: z :: r)) S := id rfl
theorem tgV24 {x0 x1 x2 x3 x4 x5 x6 x7 x8 x9 x10 x11 x12 x13 x14 x15 x16 x17 x18 x19 x20 x21 x22 x23 : Option U} {y : Option U} {u : U} {r : Env} {K : Env → VH → Prop} : wp (tgM (.one 24) u (x0 :: x1 :: x2 :: x3 :: x4 :: x5 :: x6 :: x7 :: x8 :: x9 :: x10 :: x11 :: x12 :: x13 :: x14 :: x15 :: x16 :: x17 :: x18 :: x19 :: x20 :: x21 :: x22 :: x23 :: y :: r)) K = K (x0 :: x1 :: x2 :: x3 :: x4 :: x5 :: x6 :: x7 :: x8 :: x9 :: x10 :: x11 :: x12 :: x13 :: x14 :: x15 :: x16 :: x17 :: x18 :: x19 :: x20 :: x21 :: x22 :: x23 :: some u :: r) := id rfl
theorem skV25 {x0 x1 x2 x3 x4 x5 x6 x7 x8 x9 x10 x11 x12 x13 x14 x15 x16 x17 x18 x19 x20 x21 x22 x23 x24 : Option U} {y z : Option U} {r : Env} {b : SM} {S : Fl → VH → Prop} : seqK b S (.next (List.set (x0 :: x1 :: x2 :: x3 :: x4 :: x5 :: x6 :: x7 :: x8 :: x9 :: x10 :: x11 :: x12 :: x13 :: x14 :: x15 :: x16 :: x17 :: x18 :: x19 :: x20 :: x21 :: x22 :: x23 :: x24 :: y :: r) 25 z)) = wp (b (x0 :: x1 :: x2 :: x3 :: x4 :: x5 :: x6 :: x7 :: x8 :: x9 :: x10 :: x11 :: x12 :: x13 :: x14 :: x15 :: x16 :: x17 :: x18 :: x19 :: x20 :: x21 :: x22 :: x23 :: x24 :: z :: r)) S := id rfl
theorem tgV25 {x0 x1 x2 x3 x4 x5 x6 x7 x8 x9 x10 x11 x12 x13 x14 x15 x16 x17 x18 x19 x20 x21 x22 x23 x24 : Option U} {y : Option U} {u : U} {r : Env} {K : Env → VH → Prop} : wp (tgM (.one 25) u (x0 :: x1 :: x2 :: x3 :: x4 :: x5 :: x6 :: x7 :: x8 :: x9 :: x10 :: x11 :: x12 :: x13 :: x14 :: x15 :: x16 :: x17 :: x18 :: x19 :: x20 :: x21 :: x22 :: x23 :: x24 :: y :: r)) K = K (x0 :: x1 :: x2 :: x3 :: x4 :: x5 :: x6 :: x7 :: x8 :: x9 :: x10 :: x11 :: x12 :: x13 :: x14 :: x15 :: x16 :: x17 :: x18 :: x19 :: x20 :: x21 :: x22 :: x23 :: x24 :: some u :: r) := id rfl
theorem skV26 {x0 x1 x2 x3 x4 x5 x6 x7 x8 x9 x10 x11 x12 x13 x14 x15 x16 x17 x18 x19 x20 x21 x22 x23 x24 x25 : Option U} {y z : Option U} {r : Env} {b : SM} {S : Fl → VH → Prop} : seqK b S (.next (List.set (x0 :: x1 :: x2 :: x3 :: x4 :: x5 :: x6 :: x7 :: x8 :: x9 :: x10 :: x11 :: x12 :: x13 :: x14 :: x15 :: x16 :: x17 :: x18 :: x19 :: x20 :: x21 :: x22 :: x23 :: x24 :: x25 :: y :: r) 26 z)) = wp (b (x0 :: x1 :: x2 :: x3 :: x4 :: x5 :: x6 :: x7 :: x8 :: x9 :: x10 :: x11 :: x12 :: x13 :: x14 :: x15 :: x16 :: x17 :: x18 :: x19 :: x20 :: x21 :: x22 :: x23 :: x24 :: x25 :: z :: r)) S := id rfl
theorem tgV26 {x0 x1 x2 x3 x4 x5 x6 x7 x8 x9 x10 x11 x12 x13 x14 x15 x16 x17 x18 x19 x20 x21 x22 x23 x24 x25 : Option U} {y : Option U} {u : U} {r : Env} {K : Env → VH → Prop} : wp (tgM (.one 26) u (x0 :: x1 :: x2 :: x3 :: x4 :: x5 :: x6 :: x7 :: x8 :: x9 :: x10 :: x11 :: x12 :: x13 :: x14 :: x15 :: x16 :: x17 :: x18 :: x19 :: x20 :: x21 :: x22 :: x23 :: x24 :: x25 :: y :: r)) K = K (x0 :: x1 :: x2 :: x3 :: x4 :: x5 :: x6 :: x7 :: x8 :: x9 :: x10 :: x11 :: x12 :: x13 :: x14 :: x15 :: x16 :: x17 :: x18 :: x19 :: x20 :: x21 :: x22 :: x23 :: x24 :: x25 :: some u :: r) := id rfl
theorem skV27 {x0 x1 x2 x3 x4 x5 x6 x7 x8 x9 x10 x11 x12 x13 x14 x15 x16 x17 x18 x19 x20 x21 x22 x23 x24 x25 x26 : Option U} {y z : Option U} {r : Env} {b : SM} {S : Fl → VH → Prop} : seqK b S (.next (List.set (x0 :: x1 :: x2 :: x3 :: x4 :: x5 :: x6 :: x7 :: x8 :: x9 :: x10 :: x11 :: x12 :: x13 :: x14 :: x15 :: x16 :: x17 :: x18 :: x19 :: x20 :: x21 :: x22 :: x23 :: x24 :: x25 :: x26 :: y :: r) 27 z)) = wp (b (x0 :: x1 :: x2 :: x3 :: x4 :: x5 :: x6 :: x7 :: x8 :: x9 :: x10 :: x11 :: x12 :: x13 :: x14 :: x15 :: x16 :: x17 :: x18 :: x19 :: x20 :: x21 :: x22 :: x23 :: x24 :: x25 :: x26 :: z :: r)) S := id rfl
theorem tgV27 {x0 x1 x2 x3 x4 x5 x6 x7 x8 x9 x10 x11 x12 x13 x14 x15 x16 x17 x18 x19 x20 x21 x22 x23 x24 x25 x26 : Option U} {y : Option U} {u : U} {r : Env} {K : Env → VH → Prop} : wp (tgM (.one 27) u (x0 :: x1 :: x2 :: x3 :: x4 :: x5 :: x6 :: x7 :: x8 :: x9 :: x10 :: x11 :: x12 :: x13 :: x14 :: x15 :: x16 :: x17 :: x18 :: x19 :: x20 :: x21 :: x22 :: x23 :: x24 :: x25 :: x26 :: y :: r)) K = K (x0 :: x1 :: x2 :: x3 :: x4 :: x5 :: x6 :: x7 :: x8 :: x9 :: x10 :: x11 :: x12 :: x13 :: x14 :: x15 :: x16 :: x17 :: x18 :: x19 :: x20 :: x21 :: x22 :: x23 :: x24 :: x25 :: x26 :: some u :: r) := id rfl
theorem skV28 {x0 x1 x2 x3 x4 x5 x6 x7 x8 x9 x10 x11 x12 x13 x14 x15 x16 x17 x18 x19 x20 x21 x22 x23 x24 x25 x26 x27 : Option U} {y z : Option U} {r : Env} {b : SM} {S : Fl → VH → Prop} : seqK b S (.next (List.set (x0 :: x1 :: x2 :: x3 :: x4 :: x5 :: x6 :: x7 :: x8 :: x9 :: x10 :: x11 :: x12 :: x13 :: x14 :: x15 :: x16 :: x17 :: x18 :: x19 :: x20 :: x21 :: x22 :: x23 :: x24 :: x25 :: x26 :: x27 :: y :: r) 28 z)) = wp (b (x0 :: x1 :: x2 :: x3 :: x4 :: x5 :: x6 :: x7 :: x8 :: x9 :: x10 :: x11 :: x12 :: x13 :: x14 :: x15 :: x16 :: x17 :: x18 :: x19 :: x20 :: x21 :: x22 :: x23 :: x24 :: x25 :: x26 :: x27 :: z :: r)) S := id rfl
theorem tgV28 {x0 x1 x2 x3 x4 x5 x6 x7 x8 x9 x10 x11 x12 x13 x14 x15 x16 x17 x18 x19 x20 x21 x22 x23 x24 x25 x26 x27 : Option U} {y : Option U} {u : U} {r : Env} {K : Env → VH → Prop} : wp (tgM (.one 28) u (x0 :: x1 :: x2 :: x3 :: x4 :: x5 :: x6 :: x7 :: x8 :: x9 :: x10 :: x11 :: x12 :: x13 :: x14 :: x15 :: x16 :: x17 :: x18 :: x19 :: x20 :: x21 :: x22 :: x23 :: x24 :: x25 :: x26 :: x27 :: y :: r)) K = K (x0 :: x1 :: x2 :: x3 :: x4 :: x5 :: x6 :: x7 :: x8 :: x9 :: x10 :: x11 :: x12 :: x13 :: x14 :: x15 :: x16 :: x17 :: x18 :: x19 :: x20 :: x21 :: x22 :: x23 :: x24 :: x25 :: x26 :: x27 :: some u :: r) := id rfl
theorem skV29 {x0 x1 x2 x3 x4 x5 x6 x7 x8 x9 x10 x11 x12 x13 x14 x15 x16 x17 x18 x19 x20 x21 x22 x23 x24 x25 x26 x27 x28 : Option U} {y z : Option U} {r : Env} {b : SM} {S : Fl → VH → Prop} : seqK b S (.next (List.set (x0 :: x1 :: x2 :: x3 :: x4 :: x5 :: x6 :: x7 :: x8 :: x9 :: x10 :: x11 :: x12 :: x13 :: x14 :: x15 :: x16 :: x17 :: x18 :: x19 :: x20 :: x21 :: x22 :: x23 :: x24 :: x25 :: x26 :: x27 :: x28 :: y :: r) 29 z)) = wp (b (x0 :: x1 :: x2 :: x3 :: x4 :: x5 :: x6 :: x7 :: x8 :: x9 :: x10 :: x11 :: x12 :: x13 :: x14 :: x15 :: x16 :: x17 :: x18 :: x19 :: x20 :: x21 :: x22 :: x23 :: x24 :: x25 :: x26 :: x27 :: x28 :: z :: r)) S := id rfl
theorem tgV29 {x0 x1 x2 x3 x4 x5 x6 x7 x8 x9 x10 x11 x12 x13 x14 x15 x16 x17 x18 x19 x20 x21 x22 x23 x24 x25 x26 x27 x28 : Option U} {y : Option U} {u : U} {r : Env} {K : Env → VH → Prop} : wp (tgM (.one 29) u (x0 :: x1 :: x2 :: x3 :: x4 :: x5 :: x6 :: x7 :: x8 :: x9 :: x10 :: x11 :: x12 :: x13 :: x14 :: x15 :: x16 :: x17 :: x18 :: x19 :: x20 :: x21 :: x22 :: x23 :: x24 :: x25 :: x26 :: x27 :: x28 :: y :: r)) K = K (x0 :: x1 :: x2 :: x3 :: x4 :: x5 :: x6 :: x7 :: x8 :: x9 :: x10 :: x11 :: x12 :: x13 :: x14 :: x15 :: x16 :: x17 :: x18 :: x19 :: x20 :: x21 :: x22 :: x23 :: x24 :: x25 :: x26 :: x27 :: x28 :: some u :: r) := id rfl
theorem vV0 {u : U} {r : Env} {Q : U → VH → Prop} : wp (xV 0 (some u :: r)) Q = Q u := id rfl
theorem vV1 {x0 : Option U} {u : U} {r : Env} {Q : U → VH → Prop} : wp (xV 1 (x0 :: some u :: r)) Q = Q u := id rfl
theorem vV2 {x0 x1 : Option U} {u : U} {r : Env} {Q : U → VH → Prop} : wp (xV 2 (x0 :: x1 :: some u :: r)) Q = Q u := id rfl
theorem vV3 {x0 x1 x2 : Option U} {u : U} {r : Env} {Q : U → VH → Prop} : wp (xV 3 (x0 :: x1 :: x2 :: some u :: r)) Q = Q u := id rfl
theorem vV4 {x0 x1 x2 x3 : Option U} {u : U} {r : Env} {Q : U → VH → Prop} : wp (xV 4 (x0 :: x1 :: x2 :: x3 :: some u :: r)) Q = Q u := id rfl
theorem vV5 {x0 x1 x2 x3 x4 : Option U} {u : U} {r : Env} {Q : U → VH → Prop} : wp (xV 5 (x0 :: x1 :: x2 :: x3 :: x4 :: some u :: r)) Q = Q u := id rfl
theorem vV6 {x0 x1 x2 x3 x4 x5 : Option U} {u : U} {r : Env} {Q : U → VH → Prop} : wp (xV 6 (x0 :: x1 :: x2 :: x3 :: x4 :: x5 :: some u :: r)) Q = Q u := id rfl
theorem vV7 {x0 x1 x2 x3 x4 x5 x6 : Option U} {u : U} {r : Env} {Q : U → VH → Prop} : wp (xV 7 (x0 :: x1 :: x2 :: x3 :: x4 :: x5 :: x6 :: some u :: r)) Q = Q u := id rfl
theorem vV8 {x0 x1 x2 x3 x4 x5 x6 x7 : Option U} {u : U} {r : Env} {Q : U → VH → Prop} : wp (xV 8 (x0 :: x1 :: x2 :: x3 :: x4 :: x5 :: x6 :: x7 :: some u :: r)) Q = Q u := id rfl
theorem vV9 {x0 x1 x2 x3 x4 x5 x6 x7 x8 : Option U} {u : U} {r : Env} {Q : U → VH → Prop} : wp (xV 9 (x0 :: x1 :: x2 :: x3 :: x4 :: x5 :: x6 :: x7 :: x8 :: some u :: r)) Q = Q u := id rfl
theorem vV10 {x0 x1 x2 x3 x4 x5 x6 x7 x8 x9 : Option U} {u : U} {r : Env} {Q : U → VH → Prop} : wp (xV 10 (x0 :: x1 :: x2 :: x3 :: x4 :: x5 :: x6 :: x7 :: x8 :: x9 :: some u :: r)) Q = Q u := id rfl
theorem vV11 {x0 x1 x2 x3 x4 x5 x6 x7 x8 x9 x10 : Option U} {u : U} {r : Env} {Q : U → VH → Prop} : wp (xV 11 (x0 :: x1 :: x2 :: x3 :: x4 :: x5 :: x6 :: x7 :: x8 :: x9 :: x10 :: some u :: r)) Q = Q u := id rfl
theorem vV12 {x0 x1 x2 x3 x4 x5 x6 x7 x8 x9 x10 x11 : Option U} {u : U} {r : Env} {Q : U → VH → Prop} : wp (xV 12 (x0 :: x1 :: x2 :: x3 :: x4 :: x5 :: x6 :: x7 :: x8 :: x9 :: x10 :: x11 :: some u :: r)) Q = Q u := id rfl
theorem vV13 {x0 x1 x2 x3 x4 x5 x6 x7 x8 x9 x10 x11 x12 : Option U} {u : U} {r : Env} {Q : U → VH → Prop} : wp (xV 13 (x0 :: x1 :: x2 :: x3 :: x4 :: x5 :: x6 :: x7 :: x8 :: x9 :: x10 :: x11 :: x12 :: some u :: r)) Q = Q u := id rfl
theorem vV14 {x0 x1 x2 x3 x4 x5 x6 x7 x8 x9 x10 x11 x12 x13 : Option U} {u : U} {r : Env} {Q : U → VH → Prop} : wp (xV 14 (x0 :: x1 :: x2 :: x3 :: x4 :: x5 :: x6 :: x7 :: x8 :: x9 :: x10 :: x11 :: x12 :: x13 :: some u :: r)) Q = Q u := id rfl
theorem vV15 {x0 x1 x2 x3 x4 x5 x6 x7 x8 x9 x10 x11 x12 x13 x14 : Option U} {u : U} {r : Env} {Q : U → VH → Prop} : wp (xV 15 (x0 :: x1 :: x2 :: x3 :: x4 :: x5 :: x6 :: x7 :: x8 :: x9 :: x10 :: x11 :: x12 :: x13 :: x14 :: some u :: r)) Q = Q u := id rfl
theorem vV16 {x0 x1 x2 x3 x4 x5 x6 x7 x8 x9 x10 x11 x12 x13 x14 x15 : Option U} {u : U} {r : Env} {Q : U → VH → Prop} : wp (xV 16 (x0 :: x1 :: x2 :: x3 :: x4 :: x5 :: x6 :: x7 :: x8 :: x9 :: x10 :: x11 :: x12 :: x13 :: x14 :: x15 :: some u :: r)) Q = Q u := id rfl
theorem vV17 {x0 x1 x2 x3 x4 x5 x6 x7 x8 x9 x10 x11 x12 x13 x14 x15 x16 : Option U} {u : U} {r : Env} {Q : U → VH → Prop} : wp (xV 17 (x0 :: x1 :: x2 :: x3 :: x4 :: x5 :: x6 :: x7 :: x8 :: x9 :: x10 :: x11 :: x12 :: x13 :: x14 :: x15 :: x16 :: some u :: r)) Q = Q u := id rfl
theorem vV18 {x0 x1 x2 x3 x4 x5 x6 x7 x8 x9 x10 x11 x12 x13 x14 x15 x16 x17 : Option U} {u : U} {r : Env} {Q : U → VH → Prop} : wp (xV 18 (x0 :: x1 :: x2 :: x3 :: x4 :: x5 :: x6 :: x7 :: x8 :: x9 :: x10 :: x11 :: x12 :: x13 :: x14 :: x15 :: x16 :: x17 :: some u :: r)) Q = Q u := id rfl
theorem vV19 {x0 x1 x2 x3 x4 x5 x6 x7 x8 x9 x10 x11 x12 x13 x14 x15 x16 x17 x18 : Option U} {u : U} {r : Env} {Q : U → VH → Prop} : wp (xV 19 (x0 :: x1 :: x2 :: x3 :: x4 :: x5 :: x6 :: x7 :: x8 :: x9 :: x10 :: x11 :: x12 :: x13 :: x14 :: x15 :: x16 :: x17 :: x18 :: some u :: r)) Q = Q u := id rfl
theorem vV20 {x0 x1 x2 x3 x4 x5 x6 x7 x8 x9 x10 x11 x12 x13 x14 x15 x16 x17 x18 x19 : Option U} {u : U} {r : Env} {Q : U → VH → Prop} : wp (xV 20 (x0 :: x1 :: x2 :: x3 :: x4 :: x5 :: x6 :: x7 :: x8 :: x9 :: x10 :: x11 :: x12 :: x13 :: x14 :: x15 :: x16 :: x17 :: x18 :: x19 :: some u :: r)) Q = Q u := id rfl
theorem vV21 {x0 x1 x2 x3 x4 x5 x6 x7 x8 x9 x10 x11 x12 x13 x14 x15 x16 x17 x18 x19 x20 : Option U} {u : U} {r : Env} {Q : U → VH → Prop} : wp (xV 21 (x0 :: x1 :: x2 :: x3 :: x4 :: x5 :: x6 :: x7 :: x8 :: x9 :: x10 :: x11 :: x12 :: x13 :: x14 :: x15 :: x16 :: x17 :: x18 :: x19 :: x20 :: some u :: r)) Q = Q u := id rfl
theorem vV22 {x0 x1 x2 x3 x4 x5 x6 x7 x8 x9 x10 x11 x12 x13 x14 x15 x16 x17 x18 x19 x20 x21 : Option U} {u : U} {r : Env} {Q : U → VH → Prop} : wp (xV 22 (x0 :: x1 :: x2 :: x3 :: x4 :: x5 :: x6 :: x7 :: x8 :: x9 :: x10 :: x11 :: x12 :: x13 :: x14 :: x15 :: x16 :: x17 :: x18 :: x19 :: x20 :: x21 :: some u :: r)) Q = Q u := id rfl
theorem vV23 {x0 x1 x2 x3 x4 x5 x6 x7 x8 x9 x10 x11 x12 x13 x14 x15 x16 x17 x18 x19 x20 x21 x22 : Option U} {u : U} {r : Env} {Q : U → VH → Prop} : wp (xV 23 (x0 :: x1 :: x2 :: x3 :: x4 :: x5 :: x6 :: x7 :: x8 :: x9 :: x10 :: x11 :: x12 :: x13 :: x14 :: x15 :: x16 :: x17 :: x18 :: x19 :: x20 :: x21 :: x22 :: some u :: r)) Q = Q u := id rfl
theorem vV24 {x0 x1 x2 x3 x4 x5 x6 x7 x8 x9 x10 x11 x12 x13 x14 x15 x16 x17 x18 x19 x20 x21 x22 x23 : Option U} {u : U} {r : Env} {Q : U → VH → Prop} : wp (xV 24 (x0 :: x1 :: x2 :: x3 :: x4 :: x5 :: x6 :: x7 :: x8 :: x9 :: x10 :: x11 :: x12 :: x13 :: x14 :: x15 :: x16 :: x17 :: x18 :: x19 :: x20 :: x21 :: x22 :: x23 :: some u :: r)) Q = Q u := id rfl
theorem vV25 {x0 x1 x2 x3 x4 x5 x6 x7 x8 x9 x10 x11 x12 x13 x14 x15 x16 x17 x18 x19 x20 x21 x22 x23 x24 : Option U} {u : U} {r : Env} {Q : U → VH → Prop} : wp (xV 25 (x0 :: x1 :: x2 :: x3 :: x4 :: x5 :: x6 :: x7 :: x8 :: x9 :: x10 :: x11 :: x12 :: x13 :: x14 :: x15 :: x16 :: x17 :: x18 :: x19 :: x20 :: x21 :: x22 :: x23 :: x24 :: some u :: r)) Q = Q u := id rfl
theorem vV26 {x0 x1 x2 x3 x4 x5 x6 x7 x8 x9 x10 x11 x12 x13 x14 x15 x16 x17 x18 x19 x20 x21 x22 x23 x24 x25 : Option U} {u : U} {r : Env} {Q : U → VH → Prop} : wp (xV 26 (x0 :: x1 :: x2 :: x3 :: x4 :: x5 :: x6 :: x7 :: x8 :: x9 :: x10 :: x11 :: x12 :: x13 :: x14 :: x15 :: x16 :: x17 :: x18 :: x19 :: x20 :: x21 :: x22 :: x23 :: x24 :: x25 :: some u :: r)) Q = Q u := id rfl
theorem vV27 {x0 x1 x2 x3 x4 x5 x6 x7 x8 x9 x10 x11 x12 x13 x14 x15 x16 x17 x18 x19 x20 x21 x22 x23 x24 x25 x26 : Option U} {u : U} {r : Env} {Q : U → VH → Prop} : wp (xV 27 (x0 :: x1 :: x2 :: x3 :: x4 :: x5 :: x6 :: x7 :: x8 :: x9 :: x10 :: x11 :: x12 :: x13 :: x14 :: x15 :: x16 :: x17 :: x18 :: x19 :: x20 :: x21 :: x22 :: x23 :: x24 :: x25 :: x26 :: some u :: r)) Q = Q u := id rfl
theorem vV28 {x0 x1 x2 x3 x4 x5 x6 x7 x8 x9 x10 x11 x12 x13 x14 x15 x16 x17 x18 x19 x20 x21 x22 x23 x24 x25 x26 x27 : Option U} {u : U} {r : Env} {Q : U → VH → Prop} : wp (xV 28 (x0 :: x1 :: x2 :: x3 :: x4 :: x5 :: x6 :: x7 :: x8 :: x9 :: x10 :: x11 :: x12 :: x13 :: x14 :: x15 :: x16 :: x17 :: x18 :: x19 :: x20 :: x21 :: x22 :: x23 :: x24 :: x25 :: x26 :: x27 :: some u :: r)) Q = Q u := id rfl
theorem vV29 {x0 x1 x2 x3 x4 x5 x6 x7 x8 x9 x10 x11 x12 x13 x14 x15 x16 x17 x18 x19 x20 x21 x22 x23 x24 x25 x26 x27 x28 : Option U} {u : U} {r : Env} {Q : U → VH → Prop} : wp (xV 29 (x0 :: x1 :: x2 :: x3 :: x4 :: x5 :: x6 :: x7 :: x8 :: x9 :: x10 :: x11 :: x12 :: x13 :: x14 :: x15 :: x16 :: x17 :: x18 :: x19 :: x20 :: x21 :: x22 :: x23 :: x24 :: x25 :: x26 :: x27 :: x28 :: some u :: r)) Q = Q u := id rfl
end MP
/-! PA: the drawing pen of the laws. -/
namespace MP
open PySem
/-- the pen at p, its cells at c, at most s draws so far -/
def Pen (p c s : Nat) (h : VH) : Prop := ∃ (spot : Nat) (cells : List Int), h[p]? = some (.lst [.ref c, .int spot]) ∧ h[c]? = some (.lst (cells.map .int)) ∧ p ≠ c ∧ spot ≤ s ∧ cells ≠ []
/-- nothing changes but the pen -/
def Kp (p c : Nat) (h h' : VH) : Prop := h.length ≤ h'.length ∧ ∀ n o, n ≠ p → n ≠ c → h[n]? = some o → h'[n]? = some o
section
variable {p c s : Nat} {h h1 h2 : VH}
theorem Kp.refl : Kp p c h h := ⟨Nat.le_refl _, fun _ _ _ _ e => e⟩
theorem Kp.trans (a : Kp p c h h1) (b : Kp p c h1 h2) : Kp p c h h2 := ⟨Nat.le_trans a.1 b.1, fun n o x y e => b.2 n o x y (a.2 n o x y e)⟩
theorem Kp.push {o : VO} : Kp p c h (h ++ [o]) := ⟨by simp, fun n x _ _ e => by rw [List.getElem?_append_left (List.getElem?_eq_some_iff.mp e).1]; exact e⟩
theorem at_push {n : Nat} {o x : VO} (e : h[n]? = some x) : (h ++ [o])[n]? = some x := by rw [List.getElem?_append_left (List.getElem?_eq_some_iff.mp e).1]; exact e
theorem at_new {o : VO} : (h ++ [o])[h.length]? = some o := by simp
theorem Pen.mono {s' : Nat} (a : Pen p c s h) (b : s ≤ s') : Pen p c s' h := by
  obtain ⟨spot, cells, e1, e2, e3, e4, e5⟩ := a
  exact ⟨spot, cells, e1, e2, e3, by omega, e5⟩
theorem Pen.push {o : VO} (a : Pen p c s h) : Pen p c s (h ++ [o]) := by
  obtain ⟨spot, cells, e1, e2, e3, e4, e5⟩ := a
  exact ⟨spot, cells, at_push e1, at_push e2, e3, e4, e5⟩
theorem Pen.lt (a : Pen p c s h) : p < h.length ∧ c < h.length := by
  obtain ⟨spot, cells, e1, e2, e3, e4, e5⟩ := a
  exact ⟨(List.getElem?_eq_some_iff.mp e1).1, (List.getElem?_eq_some_iff.mp e2).1⟩
/-- another object is written -/
theorem Pen.set {n : Nat} {o : VO} (a : Pen p c s h) (hp : n ≠ p) (hc : n ≠ c) : Pen p c s (h.set n o) := by
  obtain ⟨spot, cells, e1, e2, e3, e4, e5⟩ := a
  exact ⟨spot, cells, by rw [List.getElem?_set_ne hp]; exact e1, by rw [List.getElem?_set_ne hc]; exact e2, e3, e4, e5⟩
theorem at_set {n : Nat} {o x : VO} (e : h[n]? = some x) : (h.set n o)[n]? = some o := by
  rw [List.getElem?_set, if_pos rfl, if_pos (List.getElem?_eq_some_iff.mp e).1]
/-- the pen's own objects are written -/
theorem Kp.set {n : Nat} {o : VO} (hn : n = p ∨ n = c) : Kp p c h (h.set n o) := ⟨by simp, fun m x hp hc e => by
  have : n ≠ m := fun z => by subst z; rcases hn with z | z; exact hp z; exact hc z
  rw [List.getElem?_set_ne this]
  exact e⟩
theorem fmod_rng {a m : Int} (hm : 0 < m) : 0 ≤ a.fmod m ∧ a.fmod m < m := ⟨Int.fmod_nonneg_of_pos a hm, Int.fmod_lt_of_pos a hm⟩
noncomputable def b_draw2 : SM := sSeq (sTg (.one 5) (xOp powU (xB intF [xOp addU (xOp addU (xOp mulU (xOp modU (xB intF [xV 4]) (xC (.int 1000000007))) (xC (.int 48271))) (xOp mulU (xV 2) (xC (.int 7919)))) (xC (.int 104729))]) (xC (.int 5)))) (sRet (xOp modU (xOp fdivU (xB intF [xOp modU (xB intF [xV 5]) (xC (.int 2147483647))]) (xC (.int 8))) (xV 1)))
noncomputable def b_draw : SM := sSeq (sTg (.one 2) (xOp getU (xV 0) (xC (.int 1)))) (sSeq (sPut (xV 0) (xC (.int 1)) (xOp addU (xV 2) (xC (.int 1)))) (sSeq (sTg (.one 3) (xOp modU (xB intF [xV 2]) (xB lenU [xOp getU (xV 0) (xC (.int 0))]))) (sSeq (sTg (.one 4) (xB intF [xOp getU (xOp getU (xV 0) (xC (.int 0))) (xV 3)])) (sSeq (sIf (tBl (xOp geU (xV 4) (xOp powU (xC (.int 10)) (xC (.int 18))))) (sSeq (sPut (xOp getU (xV 0) (xC (.int 0))) (xV 3) (xOp fdivU (xV 4) (xV 1))) (sRet (xOp modU (xB intF [xV 4]) (xV 1)))) (sNil)) (b_draw2)))))
theorem p18 : ((10 : Int) ^ (18 : Int).toNat) = 1000000000000000000 := by decide +kernel
theorem c18 : 0 ≤ (18 : Int) ∧ (18 : Int) ≤ 1000000 ∧ (10 : Int).natAbs < 2 ^ 64 := by decide +kernel
theorem m1 : -(2 ^ 64) < (48271 : Int) ∧ (48271 : Int) < 2 ^ 64 := by decide +kernel
theorem m2 : -(2 ^ 64) < (7919 : Int) ∧ (7919 : Int) < 2 ^ 64 := by decide +kernel
theorem c5 {x : Int} (h1 : 0 ≤ x) (h2 : x < 10000000000000000) : 0 ≤ (5 : Int) ∧ (5 : Int) ≤ 1000000 ∧ x.natAbs < 2 ^ 64 := by
  refine ⟨by decide, by decide, ?_⟩
  have e : (2 : Nat) ^ 64 = 18446744073709551616 := by decide +kernel
  rw [e]
  omega
theorem draw2_ok {z m j : Int} {spot : Nat} {S : Fl → VH → Prop} (hs : spot < 1000000000000) (h1 : 1 ≤ m) (q : ∀ v : Int, 0 ≤ v → v < m → S (.ret (.int v)) h) : wp (b_draw2 [some (.ref p), some (.int m), some (.int spot), some (.int j), some (.int z), none]) S h := by
  unfold b_draw2
  refine go ws_seq ?_; generalize hK : seqK _ _ = K; simp only [if_true, Bool.false_eq_true, if_false, vV0, vV1, vV2, vV3, vV4, vV5, vV6, vV7, vV8, vV9, vV10, vV11, vV12, vV13, vV14, vV15, vV16, vV17, vV18, vV19, vV20, vV21, vV22, vV23, vV24, vV25, vV26, vV27, vV28, vV29, ws_one, ws_par, ws_put, ws_fld, ws_aug, ws_exp, ws_ret, ws_retN, ws_nil, ws_if, wp_C, wp_Op, wp_Un, wp_If, wp_And, wp_Or, wp_Not, wp_ev0, wp_ev, wp_Tup, wp_Lst, wp_newL, wp_Chain, wp_Fld, wp_Fn, wp_B, wp_Is, wp_Mth, wp_tU, wp_tBl, bk, wp_tNot, wp_tAnd, wp_tOr, wp_tYes, wp_ret, tr_bl, tr_non, tr_int, tr_tup, w_add, w_sub, w_neg, w_lt, w_le, w_gt, w_ge, w_int, w_abs, w_lenT, w_tupT, wp_ifT, wp_ifF, ck_T, ck_F, fk_ret, fk_next, sk_ret, sk_brk, sk_cont]
  rw [w_mod (by omega)]
  obtain ⟨q1, q2⟩ := fmod_rng (a := z) (m := 1000000007) (by omega)
  generalize z.fmod 1000000007 = y at q1 q2 ⊢
  rw [w_mul (.inr m1), w_mul (.inr m2)]
  try simp only [if_true, Bool.false_eq_true, if_false, vV0, vV1, vV2, vV3, vV4, vV5, vV6, vV7, vV8, vV9, vV10, vV11, vV12, vV13, vV14, vV15, vV16, vV17, vV18, vV19, vV20, vV21, vV22, vV23, vV24, vV25, vV26, vV27, vV28, vV29, ws_one, ws_par, ws_put, ws_fld, ws_aug, ws_exp, ws_ret, ws_retN, ws_nil, ws_if, wp_C, wp_Op, wp_Un, wp_If, wp_And, wp_Or, wp_Not, wp_ev0, wp_ev, wp_Tup, wp_Lst, wp_newL, wp_Chain, wp_Fld, wp_Fn, wp_B, wp_Is, wp_Mth, wp_tU, wp_tBl, bk, wp_tNot, wp_tAnd, wp_tOr, wp_tYes, wp_ret, tr_bl, tr_non, tr_int, tr_tup, w_add, w_sub, w_neg, w_lt, w_le, w_gt, w_ge, w_int, w_abs, w_lenT, w_tupT, wp_ifT, wp_ifF, ck_T, ck_F, fk_ret, fk_next, sk_ret, sk_brk, sk_cont]
  rw [w_pow (c5 (by omega) (by omega))]
  generalize (y * 48271 + (spot : Int) * 7919 + 104729) ^ (5 : Int).toNat = x5
  rw [← hK]; clear hK; refine go sk_next ?_; try simp only [sV0, sV1, sV2, sV3, sV4, sV5, sV6, sV7, sV8, sV9, sV10, sV11, sV12, sV13, sV14, sV15, sV16, sV17, sV18, sV19, sV20, sV21, sV22, sV23, sV24, sV25, sV26, sV27, sV28, sV29]
  try simp only [if_true, Bool.false_eq_true, if_false, vV0, vV1, vV2, vV3, vV4, vV5, vV6, vV7, vV8, vV9, vV10, vV11, vV12, vV13, vV14, vV15, vV16, vV17, vV18, vV19, vV20, vV21, vV22, vV23, vV24, vV25, vV26, vV27, vV28, vV29, ws_one, ws_par, ws_put, ws_fld, ws_aug, ws_exp, ws_ret, ws_retN, ws_nil, ws_if, wp_C, wp_Op, wp_Un, wp_If, wp_And, wp_Or, wp_Not, wp_ev0, wp_ev, wp_Tup, wp_Lst, wp_newL, wp_Chain, wp_Fld, wp_Fn, wp_B, wp_Is, wp_Mth, wp_tU, wp_tBl, bk, wp_tNot, wp_tAnd, wp_tOr, wp_tYes, wp_ret, tr_bl, tr_non, tr_int, tr_tup, w_add, w_sub, w_neg, w_lt, w_le, w_gt, w_ge, w_int, w_abs, w_lenT, w_tupT, wp_ifT, wp_ifF, ck_T, ck_F, fk_ret, fk_next, sk_ret, sk_brk, sk_cont]
  rw [w_mod (by omega)]
  generalize x5.fmod 2147483647 = x6
  try simp only [if_true, Bool.false_eq_true, if_false, vV0, vV1, vV2, vV3, vV4, vV5, vV6, vV7, vV8, vV9, vV10, vV11, vV12, vV13, vV14, vV15, vV16, vV17, vV18, vV19, vV20, vV21, vV22, vV23, vV24, vV25, vV26, vV27, vV28, vV29, ws_one, ws_par, ws_put, ws_fld, ws_aug, ws_exp, ws_ret, ws_retN, ws_nil, ws_if, wp_C, wp_Op, wp_Un, wp_If, wp_And, wp_Or, wp_Not, wp_ev0, wp_ev, wp_Tup, wp_Lst, wp_newL, wp_Chain, wp_Fld, wp_Fn, wp_B, wp_Is, wp_Mth, wp_tU, wp_tBl, bk, wp_tNot, wp_tAnd, wp_tOr, wp_tYes, wp_ret, tr_bl, tr_non, tr_int, tr_tup, w_add, w_sub, w_neg, w_lt, w_le, w_gt, w_ge, w_int, w_abs, w_lenT, w_tupT, wp_ifT, wp_ifF, ck_T, ck_F, fk_ret, fk_next, sk_ret, sk_brk, sk_cont]
  rw [w_fdiv ⟨by omega, by omega⟩, w_mod (by omega)]
  try simp only [if_true, Bool.false_eq_true, if_false, vV0, vV1, vV2, vV3, vV4, vV5, vV6, vV7, vV8, vV9, vV10, vV11, vV12, vV13, vV14, vV15, vV16, vV17, vV18, vV19, vV20, vV21, vV22, vV23, vV24, vV25, vV26, vV27, vV28, vV29, ws_one, ws_par, ws_put, ws_fld, ws_aug, ws_exp, ws_ret, ws_retN, ws_nil, ws_if, wp_C, wp_Op, wp_Un, wp_If, wp_And, wp_Or, wp_Not, wp_ev0, wp_ev, wp_Tup, wp_Lst, wp_newL, wp_Chain, wp_Fld, wp_Fn, wp_B, wp_Is, wp_Mth, wp_tU, wp_tBl, bk, wp_tNot, wp_tAnd, wp_tOr, wp_tYes, wp_ret, tr_bl, tr_non, tr_int, tr_tup, w_add, w_sub, w_neg, w_lt, w_le, w_gt, w_ge, w_int, w_abs, w_lenT, w_tupT, wp_ifT, wp_ifF, ck_T, ck_F, fk_ret, fk_next, sk_ret, sk_brk, sk_cont]
  generalize hx : Int.fdiv _ 8 = x
  obtain ⟨q3, q4⟩ := fmod_rng (a := x) (m := m) (by omega)
  exact q _ q3 q4
/-- what a draw of fewer than m leaves -/
def DrawP (p c s : Nat) (m : Int) (h : VH) (u : U) (h' : VH) : Prop := ∃ v : Int, u = .int v ∧ 0 ≤ v ∧ v < m ∧ Pen p c (s + 1) h' ∧ Kp p c h h' ∧ h'.length = h.length
theorem draw_ok {m : Int} (P : Pen p c s h) (hs : s < 1000000000000) (hm1 : 1 ≤ m) (hm2 : m < 1073741824) : wp (fnM 6 2 b_draw [.ref p, .int m]) (DrawP p c s m h) h := by
  obtain ⟨spot, cells, e1, e2, e3, e4, e5⟩ := P
  refine go (wp_fn (np := 2) rfl) ?_
  show wp (b_draw [some (.ref p), some (.int m), none, none, none, none]) _ h
  generalize hF : fnK (DrawP p c s m h) = F
  unfold b_draw
  refine go ws_seq ?_; generalize hK : seqK _ _ = K; simp only [if_true, Bool.false_eq_true, if_false, vV0, vV1, vV2, vV3, vV4, vV5, vV6, vV7, vV8, vV9, vV10, vV11, vV12, vV13, vV14, vV15, vV16, vV17, vV18, vV19, vV20, vV21, vV22, vV23, vV24, vV25, vV26, vV27, vV28, vV29, ws_one, ws_par, ws_put, ws_fld, ws_aug, ws_exp, ws_ret, ws_retN, ws_nil, ws_if, wp_C, wp_Op, wp_Un, wp_If, wp_And, wp_Or, wp_Not, wp_ev0, wp_ev, wp_Tup, wp_Lst, wp_newL, wp_Chain, wp_Fld, wp_Fn, wp_B, wp_Is, wp_Mth, wp_tU, wp_tBl, bk, wp_tNot, wp_tAnd, wp_tOr, wp_tYes, wp_ret, tr_bl, tr_non, tr_int, tr_tup, w_add, w_sub, w_neg, w_lt, w_le, w_gt, w_ge, w_int, w_abs, w_lenT, w_tupT, wp_ifT, wp_ifF, ck_T, ck_F, fk_ret, fk_next, sk_ret, sk_brk, sk_cont]
  rw [w_getL e1 (x := .int spot) rfl]
  rw [← hK]; clear hK; refine go sk_next ?_; try simp only [sV0, sV1, sV2, sV3, sV4, sV5, sV6, sV7, sV8, sV9, sV10, sV11, sV12, sV13, sV14, sV15, sV16, sV17, sV18, sV19, sV20, sV21, sV22, sV23, sV24, sV25, sV26, sV27, sV28, sV29]
  refine go ws_seq ?_; generalize hK : seqK _ _ = K; simp only [if_true, Bool.false_eq_true, if_false, vV0, vV1, vV2, vV3, vV4, vV5, vV6, vV7, vV8, vV9, vV10, vV11, vV12, vV13, vV14, vV15, vV16, vV17, vV18, vV19, vV20, vV21, vV22, vV23, vV24, vV25, vV26, vV27, vV28, vV29, ws_one, ws_par, ws_put, ws_fld, ws_aug, ws_exp, ws_ret, ws_retN, ws_nil, ws_if, wp_C, wp_Op, wp_Un, wp_If, wp_And, wp_Or, wp_Not, wp_ev0, wp_ev, wp_Tup, wp_Lst, wp_newL, wp_Chain, wp_Fld, wp_Fn, wp_B, wp_Is, wp_Mth, wp_tU, wp_tBl, bk, wp_tNot, wp_tAnd, wp_tOr, wp_tYes, wp_ret, tr_bl, tr_non, tr_int, tr_tup, w_add, w_sub, w_neg, w_lt, w_le, w_gt, w_ge, w_int, w_abs, w_lenT, w_tupT, wp_ifT, wp_ifF, ck_T, ck_F, fk_ret, fk_next, sk_ret, sk_brk, sk_cont]
  rw [w_setL e1 (j := 1) rfl]
  have e1' : (h.set p (.lst ([U.ref c, .int spot].set 1 (.int (spot + 1)))))[p]? = some (.lst [.ref c, .int (spot + 1)]) := at_set e1
  have e2' : (h.set p (.lst ([U.ref c, .int spot].set 1 (.int (spot + 1)))))[c]? = some (.lst (cells.map .int)) := by rw [List.getElem?_set_ne e3]; exact e2
  generalize hh1 : h.set p (.lst ([U.ref c, .int spot].set 1 (.int (spot + 1)))) = h1 at e1' e2' ⊢
  have k1 : Kp p c h h1 := by rw [← hh1]; exact .set (.inl rfl)
  have l1 : h1.length = h.length := by rw [← hh1]; simp
  rw [← hK]; clear hK; refine go sk_next ?_; try simp only [sV0, sV1, sV2, sV3, sV4, sV5, sV6, sV7, sV8, sV9, sV10, sV11, sV12, sV13, sV14, sV15, sV16, sV17, sV18, sV19, sV20, sV21, sV22, sV23, sV24, sV25, sV26, sV27, sV28, sV29]
  refine go ws_seq ?_; generalize hK : seqK _ _ = K; simp only [if_true, Bool.false_eq_true, if_false, vV0, vV1, vV2, vV3, vV4, vV5, vV6, vV7, vV8, vV9, vV10, vV11, vV12, vV13, vV14, vV15, vV16, vV17, vV18, vV19, vV20, vV21, vV22, vV23, vV24, vV25, vV26, vV27, vV28, vV29, ws_one, ws_par, ws_put, ws_fld, ws_aug, ws_exp, ws_ret, ws_retN, ws_nil, ws_if, wp_C, wp_Op, wp_Un, wp_If, wp_And, wp_Or, wp_Not, wp_ev0, wp_ev, wp_Tup, wp_Lst, wp_newL, wp_Chain, wp_Fld, wp_Fn, wp_B, wp_Is, wp_Mth, wp_tU, wp_tBl, bk, wp_tNot, wp_tAnd, wp_tOr, wp_tYes, wp_ret, tr_bl, tr_non, tr_int, tr_tup, w_add, w_sub, w_neg, w_lt, w_le, w_gt, w_ge, w_int, w_abs, w_lenT, w_tupT, wp_ifT, wp_ifF, ck_T, ck_F, fk_ret, fk_next, sk_ret, sk_brk, sk_cont]
  rw [w_getL e1' (x := .ref c) rfl, w_lenL e2']
  have hL : 0 < cells.length := List.length_pos_iff.mpr e5
  have hLz : ((cells.map U.int).length : Int) ≠ 0 := by simp; omega
  rw [w_mod hLz]
  obtain ⟨r1, r2⟩ := fmod_rng (a := (spot : Int)) (m := ((cells.map U.int).length : Int)) (by simp; omega)
  generalize hat : (spot : Int).fmod ((cells.map U.int).length : Int) = at_ at r1 r2 ⊢
  obtain ⟨j, rfl⟩ : ∃ j : Nat, at_ = (j : Int) := ⟨at_.toNat, by omega⟩
  have hj : j < cells.length := by simpa using r2
  obtain ⟨z, hz⟩ : ∃ z, cells[j]? = some z := ⟨_, List.getElem?_eq_getElem hj⟩
  have g : L2.atI (cells.map U.int) (j : Int) = some (.int z) := by rw [atI_nat, List.getElem?_map, hz]; rfl
  rw [← hK]; clear hK; refine go sk_next ?_; try simp only [sV0, sV1, sV2, sV3, sV4, sV5, sV6, sV7, sV8, sV9, sV10, sV11, sV12, sV13, sV14, sV15, sV16, sV17, sV18, sV19, sV20, sV21, sV22, sV23, sV24, sV25, sV26, sV27, sV28, sV29]
  refine go ws_seq ?_; generalize hK : seqK _ _ = K; simp only [if_true, Bool.false_eq_true, if_false, vV0, vV1, vV2, vV3, vV4, vV5, vV6, vV7, vV8, vV9, vV10, vV11, vV12, vV13, vV14, vV15, vV16, vV17, vV18, vV19, vV20, vV21, vV22, vV23, vV24, vV25, vV26, vV27, vV28, vV29, ws_one, ws_par, ws_put, ws_fld, ws_aug, ws_exp, ws_ret, ws_retN, ws_nil, ws_if, wp_C, wp_Op, wp_Un, wp_If, wp_And, wp_Or, wp_Not, wp_ev0, wp_ev, wp_Tup, wp_Lst, wp_newL, wp_Chain, wp_Fld, wp_Fn, wp_B, wp_Is, wp_Mth, wp_tU, wp_tBl, bk, wp_tNot, wp_tAnd, wp_tOr, wp_tYes, wp_ret, tr_bl, tr_non, tr_int, tr_tup, w_add, w_sub, w_neg, w_lt, w_le, w_gt, w_ge, w_int, w_abs, w_lenT, w_tupT, wp_ifT, wp_ifF, ck_T, ck_F, fk_ret, fk_next, sk_ret, sk_brk, sk_cont]
  rw [w_getL e1' (x := .ref c) rfl, w_getL e2' g]
  try simp only [if_true, Bool.false_eq_true, if_false, vV0, vV1, vV2, vV3, vV4, vV5, vV6, vV7, vV8, vV9, vV10, vV11, vV12, vV13, vV14, vV15, vV16, vV17, vV18, vV19, vV20, vV21, vV22, vV23, vV24, vV25, vV26, vV27, vV28, vV29, ws_one, ws_par, ws_put, ws_fld, ws_aug, ws_exp, ws_ret, ws_retN, ws_nil, ws_if, wp_C, wp_Op, wp_Un, wp_If, wp_And, wp_Or, wp_Not, wp_ev0, wp_ev, wp_Tup, wp_Lst, wp_newL, wp_Chain, wp_Fld, wp_Fn, wp_B, wp_Is, wp_Mth, wp_tU, wp_tBl, bk, wp_tNot, wp_tAnd, wp_tOr, wp_tYes, wp_ret, tr_bl, tr_non, tr_int, tr_tup, w_add, w_sub, w_neg, w_lt, w_le, w_gt, w_ge, w_int, w_abs, w_lenT, w_tupT, wp_ifT, wp_ifF, ck_T, ck_F, fk_ret, fk_next, sk_ret, sk_brk, sk_cont]
  rw [← hK]; clear hK; refine go sk_next ?_; try simp only [sV0, sV1, sV2, sV3, sV4, sV5, sV6, sV7, sV8, sV9, sV10, sV11, sV12, sV13, sV14, sV15, sV16, sV17, sV18, sV19, sV20, sV21, sV22, sV23, sV24, sV25, sV26, sV27, sV28, sV29]
  refine go ws_seq ?_; generalize hK : seqK _ _ = K; simp only [if_true, Bool.false_eq_true, if_false, vV0, vV1, vV2, vV3, vV4, vV5, vV6, vV7, vV8, vV9, vV10, vV11, vV12, vV13, vV14, vV15, vV16, vV17, vV18, vV19, vV20, vV21, vV22, vV23, vV24, vV25, vV26, vV27, vV28, vV29, ws_one, ws_par, ws_put, ws_fld, ws_aug, ws_exp, ws_ret, ws_retN, ws_nil, ws_if, wp_C, wp_Op, wp_Un, wp_If, wp_And, wp_Or, wp_Not, wp_ev0, wp_ev, wp_Tup, wp_Lst, wp_newL, wp_Chain, wp_Fld, wp_Fn, wp_B, wp_Is, wp_Mth, wp_tU, wp_tBl, bk, wp_tNot, wp_tAnd, wp_tOr, wp_tYes, wp_ret, tr_bl, tr_non, tr_int, tr_tup, w_add, w_sub, w_neg, w_lt, w_le, w_gt, w_ge, w_int, w_abs, w_lenT, w_tupT, wp_ifT, wp_ifF, ck_T, ck_F, fk_ret, fk_next, sk_ret, sk_brk, sk_cont]
  rw [w_pow c18, p18]
  try simp only [if_true, Bool.false_eq_true, if_false, vV0, vV1, vV2, vV3, vV4, vV5, vV6, vV7, vV8, vV9, vV10, vV11, vV12, vV13, vV14, vV15, vV16, vV17, vV18, vV19, vV20, vV21, vV22, vV23, vV24, vV25, vV26, vV27, vV28, vV29, ws_one, ws_par, ws_put, ws_fld, ws_aug, ws_exp, ws_ret, ws_retN, ws_nil, ws_if, wp_C, wp_Op, wp_Un, wp_If, wp_And, wp_Or, wp_Not, wp_ev0, wp_ev, wp_Tup, wp_Lst, wp_newL, wp_Chain, wp_Fld, wp_Fn, wp_B, wp_Is, wp_Mth, wp_tU, wp_tBl, bk, wp_tNot, wp_tAnd, wp_tOr, wp_tYes, wp_ret, tr_bl, tr_non, tr_int, tr_tup, w_add, w_sub, w_neg, w_lt, w_le, w_gt, w_ge, w_int, w_abs, w_lenT, w_tupT, wp_ifT, wp_ifF, ck_T, ck_F, fk_ret, fk_next, sk_ret, sk_brk, sk_cont]
  by_cases hz18 : (1000000000000000000 : Int) ≤ z
  · rw [decide_eq_true hz18]
    try simp only [if_true, Bool.false_eq_true, if_false, vV0, vV1, vV2, vV3, vV4, vV5, vV6, vV7, vV8, vV9, vV10, vV11, vV12, vV13, vV14, vV15, vV16, vV17, vV18, vV19, vV20, vV21, vV22, vV23, vV24, vV25, vV26, vV27, vV28, vV29, ws_one, ws_par, ws_put, ws_fld, ws_aug, ws_exp, ws_ret, ws_retN, ws_nil, ws_if, wp_C, wp_Op, wp_Un, wp_If, wp_And, wp_Or, wp_Not, wp_ev0, wp_ev, wp_Tup, wp_Lst, wp_newL, wp_Chain, wp_Fld, wp_Fn, wp_B, wp_Is, wp_Mth, wp_tU, wp_tBl, bk, wp_tNot, wp_tAnd, wp_tOr, wp_tYes, wp_ret, tr_bl, tr_non, tr_int, tr_tup, w_add, w_sub, w_neg, w_lt, w_le, w_gt, w_ge, w_int, w_abs, w_lenT, w_tupT, wp_ifT, wp_ifF, ck_T, ck_F, fk_ret, fk_next, sk_ret, sk_brk, sk_cont]
    rw [← hK]; clear hK
    refine go ws_seq ?_; generalize hK : seqK _ _ = K; simp only [if_true, Bool.false_eq_true, if_false, vV0, vV1, vV2, vV3, vV4, vV5, vV6, vV7, vV8, vV9, vV10, vV11, vV12, vV13, vV14, vV15, vV16, vV17, vV18, vV19, vV20, vV21, vV22, vV23, vV24, vV25, vV26, vV27, vV28, vV29, ws_one, ws_par, ws_put, ws_fld, ws_aug, ws_exp, ws_ret, ws_retN, ws_nil, ws_if, wp_C, wp_Op, wp_Un, wp_If, wp_And, wp_Or, wp_Not, wp_ev0, wp_ev, wp_Tup, wp_Lst, wp_newL, wp_Chain, wp_Fld, wp_Fn, wp_B, wp_Is, wp_Mth, wp_tU, wp_tBl, bk, wp_tNot, wp_tAnd, wp_tOr, wp_tYes, wp_ret, tr_bl, tr_non, tr_int, tr_tup, w_add, w_sub, w_neg, w_lt, w_le, w_gt, w_ge, w_int, w_abs, w_lenT, w_tupT, wp_ifT, wp_ifF, ck_T, ck_F, fk_ret, fk_next, sk_ret, sk_brk, sk_cont]
    rw [w_fdiv ⟨by omega, by omega⟩, w_getL e1' (x := .ref c) rfl, w_setL e2' (j := j) (ixN_nat (by simpa using hj))]
    rw [← hK]; clear hK; refine go sk_next ?_; try simp only [sV0, sV1, sV2, sV3, sV4, sV5, sV6, sV7, sV8, sV9, sV10, sV11, sV12, sV13, sV14, sV15, sV16, sV17, sV18, sV19, sV20, sV21, sV22, sV23, sV24, sV25, sV26, sV27, sV28, sV29]
    try simp only [if_true, Bool.false_eq_true, if_false, vV0, vV1, vV2, vV3, vV4, vV5, vV6, vV7, vV8, vV9, vV10, vV11, vV12, vV13, vV14, vV15, vV16, vV17, vV18, vV19, vV20, vV21, vV22, vV23, vV24, vV25, vV26, vV27, vV28, vV29, ws_one, ws_par, ws_put, ws_fld, ws_aug, ws_exp, ws_ret, ws_retN, ws_nil, ws_if, wp_C, wp_Op, wp_Un, wp_If, wp_And, wp_Or, wp_Not, wp_ev0, wp_ev, wp_Tup, wp_Lst, wp_newL, wp_Chain, wp_Fld, wp_Fn, wp_B, wp_Is, wp_Mth, wp_tU, wp_tBl, bk, wp_tNot, wp_tAnd, wp_tOr, wp_tYes, wp_ret, tr_bl, tr_non, tr_int, tr_tup, w_add, w_sub, w_neg, w_lt, w_le, w_gt, w_ge, w_int, w_abs, w_lenT, w_tupT, wp_ifT, wp_ifF, ck_T, ck_F, fk_ret, fk_next, sk_ret, sk_brk, sk_cont]
    rw [w_mod (by omega), ← hF]
    try simp only [if_true, Bool.false_eq_true, if_false, vV0, vV1, vV2, vV3, vV4, vV5, vV6, vV7, vV8, vV9, vV10, vV11, vV12, vV13, vV14, vV15, vV16, vV17, vV18, vV19, vV20, vV21, vV22, vV23, vV24, vV25, vV26, vV27, vV28, vV29, ws_one, ws_par, ws_put, ws_fld, ws_aug, ws_exp, ws_ret, ws_retN, ws_nil, ws_if, wp_C, wp_Op, wp_Un, wp_If, wp_And, wp_Or, wp_Not, wp_ev0, wp_ev, wp_Tup, wp_Lst, wp_newL, wp_Chain, wp_Fld, wp_Fn, wp_B, wp_Is, wp_Mth, wp_tU, wp_tBl, bk, wp_tNot, wp_tAnd, wp_tOr, wp_tYes, wp_ret, tr_bl, tr_non, tr_int, tr_tup, w_add, w_sub, w_neg, w_lt, w_le, w_gt, w_ge, w_int, w_abs, w_lenT, w_tupT, wp_ifT, wp_ifF, ck_T, ck_F, fk_ret, fk_next, sk_ret, sk_brk, sk_cont]
    obtain ⟨q1, q2⟩ := fmod_rng (a := z) (m := m) (by omega)
    refine ⟨_, rfl, q1, q2, ⟨spot + 1, cells.set j (z.fdiv m), ?_, ?_, e3, by omega, fun hn => e5 (by simpa using hn)⟩, k1.trans (.set (.inr rfl)), by simp [l1]⟩
    · rw [List.getElem?_set_ne (fun q => e3 q.symm)]
      exact e1'
    · rw [at_set e2', List.map_set]
  · rw [decide_eq_false hz18]
    try simp only [if_true, Bool.false_eq_true, if_false, vV0, vV1, vV2, vV3, vV4, vV5, vV6, vV7, vV8, vV9, vV10, vV11, vV12, vV13, vV14, vV15, vV16, vV17, vV18, vV19, vV20, vV21, vV22, vV23, vV24, vV25, vV26, vV27, vV28, vV29, ws_one, ws_par, ws_put, ws_fld, ws_aug, ws_exp, ws_ret, ws_retN, ws_nil, ws_if, wp_C, wp_Op, wp_Un, wp_If, wp_And, wp_Or, wp_Not, wp_ev0, wp_ev, wp_Tup, wp_Lst, wp_newL, wp_Chain, wp_Fld, wp_Fn, wp_B, wp_Is, wp_Mth, wp_tU, wp_tBl, bk, wp_tNot, wp_tAnd, wp_tOr, wp_tYes, wp_ret, tr_bl, tr_non, tr_int, tr_tup, w_add, w_sub, w_neg, w_lt, w_le, w_gt, w_ge, w_int, w_abs, w_lenT, w_tupT, wp_ifT, wp_ifF, ck_T, ck_F, fk_ret, fk_next, sk_ret, sk_brk, sk_cont]
    rw [← hK]; clear hK; refine go sk_next ?_; try simp only [sV0, sV1, sV2, sV3, sV4, sV5, sV6, sV7, sV8, sV9, sV10, sV11, sV12, sV13, sV14, sV15, sV16, sV17, sV18, sV19, sV20, sV21, sV22, sV23, sV24, sV25, sV26, sV27, sV28, sV29]
    exact draw2_ok (by omega) hm1 fun v q3 q4 => hF ▸ ⟨v, rfl, q3, q4, ⟨spot + 1, cells, e1', e2', e3, by omega, e5⟩, k1, l1⟩
end
end MP
/-! VA: the machine of values: lists and objects that nothing changes any more are values; draws are any numbers. -/
namespace MV
open PySem MP

inductive D where
  | non | bl (b : Bool) | int (i : Int) | str (x : Str) | tup (xs : List D) | lst (xs : List D) | frz (xs : List D)
  | obj (c : Nat) (vs : List D) | pen | ref (n : Nat)
  deriving Inhabited
inductive DO where
  | lst (xs : List D) | dct (kvs : List (D × D)) | ins (c : Nat) (vs : List D) | ded | lck (xs : List D)
  deriving Inhabited
abbrev DS := List DO
/-- what is wished of a raise -/
abbrev XQ := Nat → List D → Nat → DS → Prop
/-- what has to hold ahead: of the wish, the wish of a raise, the number of draws, the objects -/
abbrev VM (α : Type) := (α → Nat → DS → Prop) → XQ → Nat → DS → Prop
def vret {α : Type} (a : α) : VM α := fun Q _ n s => Q a n s
def vbad {α : Type} : VM α := fun _ _ _ _ => False
def vexc {α : Type} (c : Nat) (fs : List D) : VM α := fun _ X n s => X c fs n s
def vbnd {α β : Type} (m : VM α) (k : α → VM β) : VM β := fun Q X n s => m (fun a n s => k a Q X n s) X n s
/-- both ways, each under its answer -/
@[irreducible] def vcase {α : Type} (c : Bool) (a b : VM α) : VM α := fun Q X n s => (c = true → a Q X n s) ∧ (c = false → b Q X n s)
theorem vcase_eq {α : Type} {c : Bool} {a b : VM α} {Q : α → Nat → DS → Prop} {X : XQ} {n : Nat} {s : DS} : vcase c a b Q X n s = ((c = true → a Q X n s) ∧ (c = false → b Q X n s)) := by unfold vcase; rfl
theorem vcase_mk {α : Type} {c : Bool} {a b : VM α} {Q : α → Nat → DS → Prop} {X : XQ} {n : Nat} {s : DS} (h1 : c = true → a Q X n s) (h2 : c = false → b Q X n s) : vcase c a b Q X n s := by rw [vcase_eq]; exact ⟨h1, h2⟩
theorem vcase_t {α : Type} {a b : VM α} {Q : α → Nat → DS → Prop} {X : XQ} {n : Nat} {s : DS} (h : a Q X n s) : vcase true a b Q X n s := vcase_mk (fun _ => h) fun z => nomatch z
theorem vcase_f {α : Type} {a b : VM α} {Q : α → Nat → DS → Prop} {X : XQ} {n : Nat} {s : DS} (h : b Q X n s) : vcase false a b Q X n s := vcase_mk (fun z => nomatch z) fun _ => h
/-- both ways end in values of one kind -/
theorem vcase_j {α : Type} {c : Bool} {a b : VM α} {Q : α → Nat → DS → Prop} {X : XQ} {n : Nat} {s : DS} (P : α → Nat → Prop) (h1 : c = true → ∀ Q : α → Nat → DS → Prop, (∀ d n', P d n' → Q d n' s) → a Q X n s) (h2 : c = false → ∀ Q : α → Nat → DS → Prop, (∀ d n', P d n' → Q d n' s) → b Q X n s) (h : ∀ d n', P d n' → Q d n' s) : vcase c a b Q X n s := vcase_mk (fun z => h1 z Q h) fun z => h2 z Q h
/-- under a condition -/
def vreq {α : Type} (p : Prop) (a : VM α) : VM α := fun Q X n s => p ∧ a Q X n s
abbrev VE := List (Option D)
abbrev EV := VE → VM D
abbrev TV := VE → VM Bool
abbrev AV := VE → VM (List D)
inductive Gl where
  | next (η : VE) | ret (u : D) | brk (η : VE) | cont (η : VE)
abbrev SV := VE → VM Gl
abbrev FV := List D → VM D
def getE : VE → Nat → Option D
  | [], _ => none
  | a :: _, 0 => a
  | _ :: r, i + 1 => getE r i
def setE : VE → Nat → D → VE
  | [], _, _ => []
  | _ :: r, 0, u => some u :: r
  | a :: r, i + 1, u => a :: setE r i u

/-! ### reading lists -/
def withL {α : Type} (u : D) (K : List D → VM α) : VM α := match u with
  | .lst xs => K xs
  | .ref k => fun Q X n s => ∃ xs, s[k]? = some (.lst xs) ∧ K xs Q X n s
  | _ => vbad
def withF {α : Type} (u : D) (K : List D → VM α) : VM α := match u with
  | .lst xs => K xs
  | .frz xs => K xs
  | .ref k => fun Q X n s => ∃ xs, s[k]? = some (.lst xs) ∧ K xs Q X n s
  | _ => vbad
def withS {α : Type} (u : D) (K : List D → VM α) : VM α := match u with
  | .tup xs => K xs
  | .lst xs => K xs
  | .frz xs => K xs
  | .ref k => fun Q X n s => ∃ xs, s[k]? = some (.lst xs) ∧ K xs Q X n s
  | _ => vbad

/-! ### operators -/
abbrev V2 := D → D → VM D
def viop (f : Int → Int → D) : V2 := fun u v => match u, v with
  | .int i, .int j => vret (f i j)
  | _, _ => vbad
def vadd : V2 := fun u v => match u, v with
  | .int i, .int j => vret (.int (i + j))
  | .str x, .str y => vreq (x.length + y.length ≤ sizeLine) (vret (.str (x ++ y)))
  | .tup xs, .tup ys => vreq (xs.length + ys.length ≤ sizeLine) (vret (.tup (xs ++ ys)))
  | u, v => withL u fun xs => withL v fun ys => vreq (xs.length + ys.length ≤ sizeLine) (vret (.lst (xs ++ ys)))
def vsub : V2 := viop fun i j => .int (i - j)
def vmul : V2 := fun u v => match u, v with
  | .int i, .int j => vreq ((-(2 ^ 64) < i ∧ i < 2 ^ 64) ∨ (-(2 ^ 64) < j ∧ j < 2 ^ 64)) (vret (.int (i * j)))
  | .tup xs, .int k => vreq (xs ≠ [] ∧ 1 ≤ k ∧ k ≤ 1000 ∧ xs.length ≤ 1000) (vret (.tup (List.replicate k.toNat xs).flatten))
  | .str x, .int k => vreq (1 ≤ x.length ∧ 1 ≤ k ∧ x.length * k.toNat ≤ 1000000) (vret (.str ⟨(List.replicate k.toNat x.cps.toList).flatten.toArray⟩))
  | u, .int k => withL u fun xs => vreq (-(2 ^ 63) ≤ k ∧ k < 2 ^ 63 ∧ xs.length * k.toNat ≤ sizeLine) (vret (.lst (List.replicate k.toNat xs).flatten))
  | _, _ => vbad
def vfdiv : V2 := fun u v => match u, v with
  | .int i, .int j => vreq (j ≠ 0 ∧ j.natAbs < 1073741824) (vret (.int (i.fdiv j)))
  | _, _ => vbad
def vmod : V2 := fun u v => match u, v with
  | .int i, .int j => vreq (j ≠ 0) (vret (.int (i.fmod j)))
  | _, _ => vbad
def vpow : V2 := fun u v => match u, v with
  | .int i, .int j => vreq (0 ≤ j ∧ j ≤ 1000000 ∧ i.natAbs < 2 ^ 64) (vret (.int (i ^ j.toNat)))
  | _, _ => vbad
def vneg (u : D) : VM D := match u with
  | .int i => vret (.int (-i))
  | _ => vbad
def vlt : V2 := viop fun i j => .bl (decide (i < j))
def vle : V2 := viop fun i j => .bl (decide (i ≤ j))
def vgt : V2 := viop fun i j => .bl (decide (j < i))
def vge : V2 := viop fun i j => .bl (decide (j ≤ i))
mutual
def eqD : D → D → Bool
  | .non, .non => true
  | .bl a, .bl b => a == b
  | .bl a, .int b => (if a then 1 else 0) == b
  | .int a, .bl b => a == (if b then 1 else 0)
  | .int a, .int b => a == b
  | .str a, .str b => a == b
  | .tup a, .tup b => eqDs a b
  | .lst a, .lst b => eqDs a b
  | _, _ => false
def eqDs : List D → List D → Bool
  | [], [] => true
  | a :: as, b :: bs => eqD a b && eqDs as bs
  | _, _ => false
end
def flatD : D → Bool
  | .non => true
  | .bl _ => true
  | .int _ => true
  | .str _ => true
  | _ => false
/-- data of at most so many levels -/
def dataD : Nat → D → Bool
  | 0, _ => false
  | n + 1, d => match d with
    | .non => true
    | .bl _ => true
    | .int _ => true
    | .str x => PyData.strOk x
    | .tup xs => xs.all (dataD n)
    | .lst xs => xs.all (dataD n)
    | _ => false
/-- a value read for comparison: a list that may still change is taken as it stands -/
def withD (u : D) (K : D → VM D) : VM D := match u with
  | .ref k => fun Q X n s => ∃ xs, s[k]? = some (.lst xs) ∧ K (.lst xs) Q X n s
  | u => K u
def cmpOk (u v : D) : Bool := (flatD u && flatD v) || (dataD 30 u && dataD 30 v)
def inOk (x : D) (xs : List D) : Bool := (flatD x && xs.all flatD) || (dataD 30 x && xs.all (dataD 30))
def veq : V2 := fun u v => withD u fun u => withD v fun v => vreq (cmpOk u v = true) (vret (.bl (eqD u v)))
def vne : V2 := fun u v => withD u fun u => withD v fun v => vreq (cmpOk u v = true) (vret (.bl (!eqD u v)))
def isNon : D → Bool
  | .non => true
  | _ => false
def isNonR (u : D) (K : Bool → VM D) : VM D := match u with
  | .ref k => fun Q X n s => (∃ o, s[k]? = some o ∧ o ≠ .ded) ∧ K false Q X n s
  | u => K (isNon u)
def visR (u v : D) (K : Bool → VM D) : VM D := match v with
  | .non => isNonR u K
  | .bl b => match u with
    | .bl a => K (decide (a = b))
    | _ => vbad
  | _ => vbad
def vis : V2 := fun u v => visR u v fun c => vret (.bl c)
def visn : V2 := fun u v => visR u v fun c => vret (.bl (!c))
def vinR (x y : D) (K : Bool → VM D) : VM D := match y with
  | .str z => match x with
    | .str w => fun Q X n s => ∃ c, w = ⟨#[c]⟩ ∧ K (decide (c ∈ z.cps.toList)) Q X n s
    | _ => vbad
  | .tup xs => vreq (flatD x = true ∧ xs.all flatD = true) (K (xs.any fun z => eqD z x))
  | y => withL y fun xs => vreq (inOk x xs = true) (K (xs.any fun z => eqD z x))
def vin : V2 := fun u v => vinR u v fun c => vret (.bl c)
def vnin : V2 := fun u v => vinR u v fun c => vret (.bl (!c))
def vtru (u : D) : VM Bool := match u with
  | .non => vret false
  | .bl b => vret b
  | .int i => vret (i != 0)
  | .str x => vreq (x.length ≤ sizeLine) (vret (x.length != 0))
  | u => withS u fun xs => vret (!xs.isEmpty)
def vgetL (xs : List D) (i : Int) : VM D := fun Q _ n s => ∃ x, L2.atI xs i = some x ∧ Q x n s
def vget : V2 := fun o i => match o, i with
  | .tup xs, .int k => vgetL xs k
  | .str z, .int k => fun Q _ n s => z.length ≤ sizeLine ∧ ∃ c, L2.atI z.cps.toList k = some c ∧ Q (.str ⟨#[c]⟩) n s
  | o, .int k => withF o fun xs => vgetL xs k
  | _, _ => vbad
def vsl (o : D) (lo hi : Option Int) : VM D := match o with
  | .tup xs => vret (.tup (cutU xs lo hi))
  | o => withF o fun xs => vret (.lst (cutU xs lo hi))
def vrev (o : D) : VM D := withF o fun xs => vret (.lst xs.reverse)
def lk {α : Type} : List (Nat × α) → Nat → Option α
  | [], _ => none
  | (a, b) :: r, c => if a = c then some b else lk r c
def getL : List D → Nat → Option D
  | [], _ => none
  | a :: _, 0 => some a
  | _ :: r, i + 1 => getL r i
def putL : Nat → D → List D → List D
  | _, v, [] => [v]
  | 0, v, _ :: r => v :: r
  | j + 1, v, a :: r => a :: putL j v r
def ofOp {α : Type} (o : Option α) : VM α := match o with
  | some a => vret a
  | none => vbad
def vfld (tbl : List (Nat × Nat)) (u : D) : VM D := match u with
  | .obj c vs => vbnd (ofOp (lk tbl c)) fun j => ofOp (getL vs j)
  | .ref k => fun Q _ n s => ∃ c vs j v, s[k]? = some (.ins c vs) ∧ lk tbl c = some j ∧ getL vs j = some v ∧ Q v n s
  | _ => vbad
def vset (o i v : D) : VM Unit := match o, i with
  | .ref k, .int i => fun Q _ n s => ∃ xs j, s[k]? = some (.lst xs) ∧ L2.ixN xs.length i = some j ∧ Q () n (s.set k (.lst (xs.set j v)))
  | _, _ => vbad
def vsetF (tbl : List (Nat × Nat)) (o v : D) : VM Unit := match o with
  | .ref k => fun Q _ n s => ∃ c vs j, s[k]? = some (.ins c vs) ∧ lk tbl c = some j ∧ j ≤ vs.length ∧ Q () n (s.set k (.ins c (putL j v vs)))
  | _ => vbad

/-! ### built-in functions -/
def v1 (f : D → VM D) : FV := fun us => match us with
  | [u] => f u
  | _ => vbad
def vlen : FV := v1 fun u => match u with
  | .str x => vreq (x.length ≤ sizeLine) (vret (.int x.length))
  | u => withS u fun xs => vret (.int xs.length)
def vint : FV := v1 fun u => match u with
  | .int i => vret (.int i)
  | .bl b => vret (.int (if b then 1 else 0))
  | _ => vbad
def vtup : FV := v1 fun u => withS u fun xs => vret (.tup xs)
def vlist : FV := v1 fun u => withS u fun xs => vret (.lst xs)
def vnewL (xs : List D) : VM D := fun Q _ n s => Q (.ref s.length) n (s ++ [.lst xs])
/-- list(x) that may change -/
def vlistM : FV := v1 fun u => withS u vnewL
def vints (u : D) (K : List Int → VM D) : VM D := withL u fun xs Q X n s => ∃ ns : List Int, xs = ns.map .int ∧ K ns Q X n s
def vsorted : FV := v1 fun u => vints u fun ns => vret (.lst ((sortI ns).map .int))
def vsum : FV := v1 fun u => vints u fun ns => vret (.int ns.sum)
def vmax : FV := fun us => match us with
  | [.int i, .int j] => vret (.int (if j > i then j else i))
  | [u] => vints u fun ns => vreq (0 < ns.length) (vret (.int (maxI ns)))
  | _ => vbad
def vmin : FV := fun us => match us with
  | [.int i, .int j] => vret (.int (if j < i then j else i))
  | _ => vbad
def vabs : FV := v1 fun u => match u with
  | .int i => vret (.int (if i < 0 then -i else i))
  | _ => vbad
def vbls (u : D) (K : List Bool → VM D) : VM D := withL u fun xs Q X n s => ∃ bs : List Bool, xs = bs.map .bl ∧ K bs Q X n s
def vall : FV := v1 fun u => vbls u fun bs => vret (.bl (bs.all id))
def vany : FV := v1 fun u => vbls u fun bs => vret (.bl (bs.any id))
/-- of which kinds: bool, int, str, tuple, list, own classes -/
structure Kd where
  b : Bool
  i : Bool
  s : Bool
  t : Bool
  l : Bool
  d : Bool
  cs : List (Nat × Bool)
def visk (k : Kd) (u : D) : VM D := match u with
  | .non => vret (.bl false)
  | .bl _ => vret (.bl (k.b || k.i))
  | .int _ => vret (.bl k.i)
  | .str _ => vret (.bl k.s)
  | .tup _ => vret (.bl k.t)
  | .lst _ => vret (.bl k.l)
  | .frz _ => vret (.bl k.l)
  | .obj c _ => vbnd (ofOp (lk k.cs c)) fun r => vret (.bl r)
  | .ref j => fun Q _ n s => (∃ xs, s[j]? = some (.lst xs)) ∧ Q (.bl k.l) n s
  | _ => vbad

/-! ### methods of built-in types -/
def isList (u : D) (m : VM D) : VM D := match u with
  | .ref k => fun Q X n s => (∃ xs, s[k]? = some (.lst xs)) ∧ m Q X n s
  | .lst _ => m
  | _ => vbad
def vapp (u : D) : FV := fun us => match u, us with
  | .ref k, [v] => fun Q _ n s => ∃ xs, s[k]? = some (.lst xs) ∧ xs.length < sizeLine ∧ Q .non n (s.set k (.lst (xs ++ [v])))
  | _, _ => vbad
def vext (u : D) : FV := fun us => match u, us with
  | .ref k, [v] => fun Q X n s => ∃ xs, s[k]? = some (.lst xs) ∧ withL v (fun ys Q _ n s => xs.length + ys.length ≤ sizeLine ∧ Q .non n (s.set k (.lst (xs ++ ys)))) Q X n s
  | _, _ => vbad
def vpop (u : D) : FV := fun us => match u, us with
  | .ref k, [] => fun Q _ n s => ∃ xs y, s[k]? = some (.lst xs) ∧ xs[xs.length - 1]? = some y ∧ Q y n (s.set k (.lst xs.dropLast))
  | _, _ => vbad
def idxD (x : D) : List D → Option Nat
  | [] => none
  | y :: r => if eqD y x = true then some 0 else (idxD x r).map (· + 1)
def vidxL (xs : List D) (x : D) : VM D := fun Q _ n s => (flatD x = true ∧ xs.all flatD = true) ∧ ∃ j : Nat, idxD x xs = some j ∧ Q (.int j) n s
def vidx (u : D) : FV := fun us => match us with
  | [x] => match u with
    | .tup xs => vidxL xs x
    | u => withL u fun xs => vidxL xs x
  | _ => vbad
def vjoin (u : D) : FV := fun us => match u, us with
  | .str x, [v] => withS v fun xs Q _ n s => ∃ ss : List Str, xs = ss.map .str ∧ (ss.map (·.length)).sum + ss.length * x.length ≤ 16777216 ∧ Q (.str (Txt.join x ss)) n s
  | _, _ => vbad

/-! ### expressions -/
def yV (i : Nat) : EV := fun η => match getE η i with
  | some u => vret u
  | none => vbad
def yC (u : D) : EV := fun _ => vret u
def yOp (f : V2) (a b : EV) : EV := fun η => vbnd (a η) fun u => vbnd (b η) fun v => f u v
def yUn (f : D → VM D) (a : EV) : EV := fun η => vbnd (a η) f
def yIf (t : TV) (a b : EV) : EV := fun η => vbnd (t η) fun c => vcase c (a η) (b η)
def yAnd (a b : EV) : EV := fun η => vbnd (a η) fun u => vbnd (vtru u) fun c => vcase c (b η) (vret u)
def yOr (a b : EV) : EV := fun η => vbnd (a η) fun u => vbnd (vtru u) fun c => vcase c (vret u) (b η)
def yNot (a : EV) : EV := fun η => vbnd (a η) fun u => vbnd (vtru u) fun c => vret (.bl (!c))
def yevL : List EV → AV
  | [] => fun _ => vret []
  | m :: ms => fun η => vbnd (m η) fun u => vbnd (yevL ms η) fun us => vret (u :: us)
def yTup (ms : List EV) : EV := fun η => vbnd (yevL ms η) fun us => vret (.tup us)
def yLst (ms : List EV) : EV := fun η => vbnd (yevL ms η) fun us => vret (.lst us)
def yLstM (ms : List EV) : EV := fun η => vbnd (yevL ms η) vnewL
def yChain (f g : V2) (a b c : EV) : EV := fun η => vbnd (a η) fun u => vbnd (b η) fun v => vbnd (f u v) fun r => match r with
  | .bl k => vcase k (vbnd (c η) fun w => g v w) (vret (.bl false))
  | _ => vbad
def vpart (m : Option EV) (η : VE) : VM (Option Int) := match m with
  | none => vret none
  | some a => vbnd (a η) fun u => match u with
    | .int i => vret (some i)
    | _ => vbad
def ySl (a : EV) (lo hi : Option EV) : EV := fun η => vbnd (a η) fun u => vbnd (vpart lo η) fun l => vbnd (vpart hi η) fun k => vsl u l k
def yFld (tbl : List (Nat × Nat)) (a : EV) : EV := fun η => vbnd (a η) (vfld tbl)
def yFn (g : FV) (ms : List EV) : EV := fun η => vbnd (yevL ms η) g
/-- a method of an own class -/
def vcls (tbl : List (Nat × FV)) (u : D) (K : FV → VM D) : VM D := match u with
  | .obj c _ => vbnd (ofOp (lk tbl c)) K
  | .ref k => fun Q X n s => ∃ c vs g, s[k]? = some (.ins c vs) ∧ lk tbl c = some g ∧ K g Q X n s
  | _ => vbad
def yMeth (tbl : List (Nat × FV)) (a : EV) (ms : List EV) : EV := fun η => vbnd (a η) fun u => vcls tbl u fun g => vbnd (yevL ms η) fun us => g (u :: us)
def yApp (a : EV) (ms : List EV) : EV := fun η => vbnd (a η) fun u => isList u (vbnd (yevL ms η) (vapp u))
def yExt (a : EV) (ms : List EV) : EV := fun η => vbnd (a η) fun u => isList u (vbnd (yevL ms η) (vext u))
def yPop (a : EV) (ms : List EV) : EV := fun η => vbnd (a η) fun u => isList u (vbnd (yevL ms η) (vpop u))
def yIdx (a : EV) (ms : List EV) : EV := fun η => vbnd (a η) fun u => match u with
  | .tup xs => vbnd (yevL ms η) (vidx (.tup xs))
  | u => isList u (vbnd (yevL ms η) (vidx u))
def yJoin (a : EV) (ms : List EV) : EV := fun η => vbnd (a η) fun u => match u with
  | .str x => vbnd (yevL ms η) (vjoin (.str x))
  | _ => vbad
def yIs (k : Kd) (a : EV) : EV := fun η => vbnd (a η) (visk k)
mutual
def clo (k : Nat) : D → Bool
  | .tup xs => clos k xs
  | .lst xs => clos k xs
  | .frz xs => clos k xs
  | .obj _ xs => clos k xs
  | .ref j => decide (j < k)
  | _ => true
def clos (k : Nat) : List D → Bool
  | [] => true
  | x :: xs => clo k x && clos k xs
end
/-- a new instance that nothing changes afterwards -/
@[irreducible] def vmk (c : Nat) (ini : FV) : FV := fun us Q X n s => ini (.ref s.length :: us) (fun r n' s' => r = .non ∧ ∃ vs, s' = s ++ [.ins c vs] ∧ clos s.length vs = true ∧ Q (.obj c vs) n' s)
  (fun e fs n' s' => ∃ o, s' = s ++ [o] ∧ clos s.length fs = true ∧ X e fs n' s) n (s ++ [.ins c []])
theorem vmk_eq {c : Nat} {ini : FV} {us : List D} {Q : D → Nat → DS → Prop} {X : XQ} {n : Nat} {s : DS} : vmk c ini us Q X n s = ini (.ref s.length :: us) (fun r n' s' => r = .non ∧ ∃ vs, s' = s ++ [.ins c vs] ∧ clos s.length vs = true ∧ Q (.obj c vs) n' s)
  (fun e fs n' s' => ∃ o, s' = s ++ [o] ∧ clos s.length fs = true ∧ X e fs n' s) n (s ++ [.ins c []]) := by unfold vmk; rfl
/-- a new instance that may change -/
def vmkM (c : Nat) (ini : FV) : FV := fun us Q X n s => ini (.ref s.length :: us) (fun r n' s' => r = .non ∧ (∃ o, s'[s.length]? = some o ∧ o ≠ .ded) ∧ Q (.ref s.length) n' s') X n (s ++ [.ins c []])
/-- what a def made for itself is forgotten -/
def vpure (f : FV) : FV := fun us Q X n s => f us (fun r n' s' => ∃ t, s' = s ++ t ∧ clo s.length r = true ∧ Q r n' s) (fun e fs n' s' => ∃ t, s' = s ++ t ∧ clos s.length fs = true ∧ X e fs n' s) n s
/-- a list that is changed no more -/
def yFrz (a : EV) : EV := fun η => vbnd (a η) fun u => match u with
  | .ref k => fun Q _ n s => ∃ xs, s[k]? = some (.lst xs) ∧ Q (.lst xs) n (s.set k .ded)
  | u => vret u

/-- a list of lists that are changed no more -/
def vfrzs : List D → VM (List D)
  | [] => vret []
  | d :: ds => match d with
    | .ref k => fun Q X n s => ∃ xs, s[k]? = some (.lst xs) ∧ vfrzs ds (fun r n' s' => Q (.lst xs :: r) n' s') X n (s.set k .ded)
    | d => vbnd (vfrzs ds) fun r => vret (d :: r)
def yFrz2 (a : EV) : EV := fun η => vbnd (a η) fun u => match u with
  | .lst ds => vbnd (vfrzs ds) fun r => vret (.lst r)
  | u => vret u

/-! ### tests -/
def uU (a : EV) : TV := fun η => vbnd (a η) vtru
def uBl (a : EV) : TV := fun η => vbnd (a η) fun u => match u with
  | .bl b => vret b
  | _ => vbad
def uNot (t : TV) : TV := fun η => vbnd (t η) fun c => vret (!c)
def uAnd (t u : TV) : TV := fun η => vbnd (t η) fun c => vcase c (u η) (vret false)
def uOr (t u : TV) : TV := fun η => vbnd (t η) fun c => vcase c (vret true) (u η)
def uYes : TV := fun _ => vret true

/-! ### what is walked -/
/-- what is walked: a list that may change is held while it is walked -/
structure VI where
  w : Option (Nat × List D)
  us : List D
def vhold {α : Type} (w : Option (Nat × List D)) (m : VM α) : VM α := match w with
  | none => m
  | some p => fun Q X n s => s[p.1]? = some (.lst p.2) ∧ m (fun r n' s' => Q r n' (s'.set p.1 (.lst p.2))) (fun e fs n' s' => X e fs n' (s'.set p.1 (.lst p.2))) n (s.set p.1 (.lck p.2))
def chrD (x : Str) : List D := x.cps.toList.map fun c => .str ⟨#[c]⟩
def jtU (u : D) : VM VI := match u with
  | .tup xs => vret ⟨none, xs⟩
  | .str x => vret ⟨none, chrD x⟩
  | .lst xs => vret ⟨none, xs⟩
  | .frz xs => vret ⟨none, xs⟩
  | .ref k => fun Q _ n s => ∃ xs, s[k]? = some (.lst xs) ∧ Q ⟨some (k, xs), xs⟩ n s
  | _ => vbad
def jtV (a : EV) : VE → VM VI := fun η => vbnd (a η) jtU
def rngD (lo : Int) (n : Nat) : List D := (List.range n).map fun i => .int (lo + (i : Nat))
def jtR1 (a : EV) : VE → VM VI := fun η => vbnd (a η) fun u => match u with
  | .int j => vreq (-(2 ^ 62) ≤ j ∧ j < 2 ^ 62) (vret ⟨none, rngD 0 j.toNat⟩)
  | _ => vbad
def jtR2 (a b : EV) : VE → VM VI := fun η => vbnd (a η) fun u => vbnd (b η) fun v => match u, v with
  | .int i, .int j => vreq (-(2 ^ 62) ≤ i ∧ i < 2 ^ 62 ∧ -(2 ^ 62) ≤ j ∧ j < 2 ^ 62) (vret ⟨none, rngD i (j - i).toNat⟩)
  | _, _ => vbad
def enumD : Nat → List D → List D
  | _, [] => []
  | i, u :: us => .tup [.int i, u] :: enumD (i + 1) us
def jtE (a : EV) : VE → VM VI := fun η => vbnd (a η) fun u => match u with
  | .tup xs => vret ⟨none, enumD 0 xs⟩
  | .lst xs => vret ⟨none, enumD 0 xs⟩
  | .frz xs => vret ⟨none, enumD 0 xs⟩
  | .ref k => fun Q _ n s => ∃ xs, s[k]? = some (.lst xs) ∧ Q ⟨some (k, xs), enumD 0 xs⟩ n s
  | _ => vbad
abbrev GV := D → VE → VM VE
def setEs : List Nat → List D → VE → VE
  | i :: is, u :: us, η => setEs is us (setE η i u)
  | _, _, η => η
def tgV : Tg → GV
  | .one i => fun u η => vret (setE η i u)
  | .many is => fun u η => withS u fun us => vreq (us.length = is.length) (vret (setEs is us η))
def vnoX {α : Type} (m : VM α) : VM α := fun Q _ n s => m Q (fun _ _ _ _ => False) n s
def vcomp1 (tg : GV) (t : TV) (e : EV) (u : D) (η : VE) : VM (Option D) := vnoX (vbnd (tg u η) fun η' => vbnd (t η') fun c => vcase c (vbnd (e η') fun v => vret (some v)) (vret none))
def vcompL (tg : GV) (t : TV) (e : EV) : List D → VE → VM (List D)
  | [], _ => vret []
  | u :: us, η => vbnd (vcomp1 tg t e u η) fun o => vbnd (vcompL tg t e us η) fun vs => vret (o.toList ++ vs)
/-- the same, not looked into -/
@[irreducible] def vcompI (tg : GV) (t : TV) (e : EV) (us : List D) (η : VE) : VM (List D) := vcompL tg t e us η
theorem vcompI_eq {tg : GV} {t : TV} {e : EV} {us : List D} {η : VE} : vcompI tg t e us η = vcompL tg t e us η := by unfold vcompI; rfl
def yLcG (it : VE → VM VI) (tg : Tg) (t : TV) (e : EV) (K : List D → VM D) : EV := fun η => vbnd (it η) fun I => vreq (I.us.length ≤ sizeLine) (vbnd (vhold I.w (vcompI (tgV tg) t e I.us η)) K)
def yLc (it : VE → VM VI) (tg : Tg) (t : TV) (e : EV) : EV := yLcG it tg t e fun vs => vret (.lst vs)
def yLcM (it : VE → VM VI) (tg : Tg) (t : TV) (e : EV) : EV := yLcG it tg t e vnewL

/-! ### statements -/
def zNil : SV := fun η => vret (.next η)
def zSeq (a b : SV) : SV := fun η => vbnd (a η) fun r => match r with
  | .next η' => b η'
  | r => vret r
def zTg (tg : Tg) (m : EV) : SV := fun η => vbnd (m η) fun u => vbnd (tgV tg u η) fun η' => vret (.next η')
def zPar (is : List Nat) (ms : List EV) : SV := fun η => vbnd (yevL ms η) fun us => vret (.next (setEs is us η))
def zPut (o i m : EV) : SV := fun η => vbnd (m η) fun v => vbnd (o η) fun u => vbnd (i η) fun k => vbnd (vset u k v) fun _ => vret (.next η)
def zFld (tbl : List (Nat × Nat)) (o m : EV) : SV := fun η => vbnd (m η) fun v => vbnd (o η) fun u => vbnd (vsetF tbl u v) fun _ => vret (.next η)
def zAug (i : Nat) (m : EV) : SV := fun η => vbnd (yV i η) fun u => vbnd (m η) fun v => vbnd (viop (fun a b => .int (a + b)) u v) fun w => vret (.next (setE η i w))
def zExp (m : EV) : SV := fun η => vbnd (m η) fun _ => vret (.next η)
def zRet (m : EV) : SV := fun η => vbnd (m η) fun u => vret (.ret u)
def zRetN : SV := fun _ => vret (.ret .non)
def zIf (t : TV) (a b : SV) : SV := fun η => vbnd (t η) fun c => vcase c (a η) (b η)
def zBrk : SV := fun η => vret (.brk η)
def zCont : SV := fun η => vret (.cont η)
def zBad : SV := fun _ => vbad
def vforL (tg : GV) (b : SV) : List D → SV
  | [], η => vret (.next η)
  | u :: us, η => vbnd (vbnd (tg u η) b) fun r => match r with
      | .next η' => vforL tg b us η'
      | .cont η' => vforL tg b us η'
      | .brk η' => vret (.next η')
      | .ret v => vret (.ret v)
@[irreducible] def vforI (tg : GV) (b : SV) (us : List D) (η : VE) : VM Gl := vforL tg b us η
theorem vforI_eq {tg : GV} {b : SV} {us : List D} {η : VE} : vforI tg b us η = vforL tg b us η := by unfold vforI; rfl
def zFor (it : VE → VM VI) (tg : Tg) (b : SV) : SV := fun η => vbnd (it η) fun I => vhold I.w (vforI (tgV tg) b I.us η)
def whQ (I : Nat → VE → Nat → DS → Prop) (m : Nat) (Q : Gl → Nat → DS → Prop) : Gl → Nat → DS → Prop := fun r n s => match r with
  | .next η => ∃ m', m' < m ∧ I m' η n s
  | .cont η => ∃ m', m' < m ∧ I m' η n s
  | .brk η => Q (.next η) n s
  | .ret v => Q (.ret v) n s
def zWhile (t : TV) (b : SV) : SV := fun η Q X n s => ∃ I : Nat → VE → Nat → DS → Prop, (∃ m, I m η n s) ∧ ∀ m η n s, I m η n s → t η (fun c n s => (c = true → b η (whQ I m Q) X n s) ∧ (c = false → Q (.next η) n s)) X n s
def vfn (N np : Nat) (b : SV) : FV := fun us => vreq (us.length = np) (vbnd (b (us.map some ++ List.replicate (N - np) none)) fun r => match r with
  | .next _ => vret .non
  | .ret u => vret u
  | _ => vbad)
/-- the drawing pen -/
def vdraw : FV := fun us => match us with
  | [.pen, .int m] => fun Q _ n s => (1 ≤ m ∧ m < 1073741824 ∧ n < 1000000000000) ∧ ∀ z : Int, 0 ≤ z → z < m → Q (.int z) (n + 1) s
  | _ => vbad
/-- a new pen from the script in a slot -/
def ypen (i : Nat) : EV := fun η => match getE η i with
  | some (.frz xs) => fun Q _ n s => (∃ ns : List Int, xs = ns.map .int) ∧ Q .pen n s
  | _ => vbad
end MV
/-! VB: how values stand in the small machine's heap; what it is that a run is one of the wishes. -/
namespace MV
open PySem MP

abbrev CTab := Nat → Str × List Str
structure Wd where
  ι : List (Option Nat)
  pens : List (Nat × Nat)
  lk : List Nat
def Wd.pn (W : Wd) (m : Nat) : Prop := ∃ q ∈ W.pens, m = q.1 ∨ m = q.2
def Wd.fr (W : Wd) (m : Nat) : Prop := ¬ some m ∈ W.ι ∧ ¬ W.pn m
def NamesOk (ks : List Str) (fs : Fs) : Prop := fs.map (·.1) = ks.take fs.length ∧ fs.length ≤ ks.length
section
variable (CT : CTab)
mutual
def RelV (W : Wd) (h : VH) : D → U → Prop
  | .non, u => u = .non
  | .bl b, u => u = .bl b
  | .int i, u => u = .int i
  | .str x, u => u = .str x
  | .tup ds, u => ∃ us, u = .tup us ∧ RelVs W h ds us
  | .lst ds, u => ∃ m us, u = .ref m ∧ h[m]? = some (.lst us) ∧ W.fr m ∧ RelVs W h ds us
  | .frz ds, u => ∃ m us, u = .ref m ∧ h[m]? = some (.frz us) ∧ W.fr m ∧ RelVs W h ds us
  | .obj c ds, u => ∃ m fs, u = .ref m ∧ h[m]? = some (.ins (CT c).1 fs) ∧ W.fr m ∧ NamesOk (CT c).2 fs ∧ RelVs W h ds (fs.map (·.2))
  | .pen, u => ∃ q ∈ W.pens, u = .ref q.1
  | .ref k, u => ∃ om, W.ι[k]? = some om ∧ ∀ m, om = some m → u = .ref m
def RelVs (W : Wd) (h : VH) : List D → List U → Prop
  | [], us => us = []
  | d :: ds, us => ∃ u r, us = u :: r ∧ RelV W h d u ∧ RelVs W h ds r
end
def RelKs (W : Wd) (h : VH) : List (D × D) → List (U × U) → Prop
  | [], us => us = []
  | d :: ds, us => ∃ u r, us = u :: r ∧ RelV CT W h d.1 u.1 ∧ RelV CT W h d.2 u.2 ∧ RelKs W h ds r
def RelO (W : Wd) (h : VH) (o : DO) (vo : VO) : Prop := match o with
  | .lst ds => ∃ us, vo = .lst us ∧ RelVs CT W h ds us
  | .dct kvs => ∃ us, vo = .dct us ∧ RelKs CT W h kvs us
  | .ins c ds => ∃ fs, vo = .ins (CT c).1 fs ∧ NamesOk (CT c).2 fs ∧ RelVs CT W h ds (fs.map (·.2))
  | .ded => False
  | .lck ds => ∃ us, vo = .lst us ∧ RelVs CT W h ds us
/-- frozen objects stay, others are known as before, or dead -/
structure Ex0 (W : Wd) (h : VH) (W' : Wd) (h' : VH) : Prop where
  fr : ∀ m o, h[m]? = some o → W.fr m → h'[m]? = some o ∧ W'.fr m
  io : ∀ (k m : Nat), W.ι[k]? = some (some m) → W'.ι[k]? = some (some m) ∨ W'.ι[k]? = some none
  dd : ∀ (k : Nat), W.ι[k]? = some none → W'.ι[k]? = some none
  pens : ∀ q ∈ W.pens, q ∈ W'.pens
/-- .. and what is held stays as it is -/
structure Ex (W : Wd) (h : VH) (W' : Wd) (h' : VH) : Prop extends Ex0 W h W' h' where
  lk : ∀ k ∈ W.lk, k ∈ W'.lk ∧ ∀ (m : Nat) (o : VO), W.ι[k]? = some (some m) → h[m]? = some o → W'.ι[k]? = some (some m) ∧ h'[m]? = some o
def PenA (n : Nat) (h : VH) (q : Nat × Nat) : Prop := ∃ (spot : Nat) (cells : List Int), h[q.1]? = some (.lst [.ref q.2, .int spot]) ∧ h[q.2]? = some (.lst (cells.map .int)) ∧ q.1 ≠ q.2 ∧ spot ≤ n ∧ cells ≠ []
structure Rl (W : Wd) (n : Nat) (s : DS) (h : VH) : Prop where
  len : W.ι.length = s.length
  inj : ∀ (k j m : Nat), W.ι[k]? = some (some m) → W.ι[j]? = some (some m) → k = j
  obj : ∀ (k m : Nat), W.ι[k]? = some (some m) → ∃ o vo, s[k]? = some o ∧ h[m]? = some vo ∧ RelO CT W h o vo ∧ ¬ W.pn m
  ded : ∀ (k : Nat), W.ι[k]? = some none → s[k]? = some .ded
  pen : ∀ q ∈ W.pens, PenA n h q
  lk : ∀ k ∈ W.lk, ∃ xs, s[k]? = some (.lck xs)
  pdj : ∀ q ∈ W.pens, ∀ q' ∈ W.pens, q ≠ q' → q.1 ≠ q'.1 ∧ q.1 ≠ q'.2 ∧ q.2 ≠ q'.1 ∧ q.2 ≠ q'.2
end
section
variable {CT : CTab} {W W' W2 : Wd} {h h' h2 : VH} {n : Nat} {s : DS}
theorem Ex.refl : Ex W h W h := ⟨⟨fun _ _ e f => ⟨e, f⟩, fun _ _ e => .inl e, fun _ e => e, fun _ e => e⟩, fun _ e => ⟨e, fun _ _ e1 e2 => ⟨e1, e2⟩⟩⟩
theorem Ex.trans (a : Ex W h W' h') (b : Ex W' h' W2 h2) : Ex W h W2 h2 := ⟨⟨fun m o e f => by
    obtain ⟨e1, f1⟩ := a.fr m o e f
    exact b.fr m o e1 f1, fun k m e => by
    rcases a.io k m e with e | e
    · exact b.io k m e
    · exact .inr (b.dd k e), fun k e => b.dd k (a.dd k e), fun q e => b.pens q (a.pens q e)⟩, fun k hk => by
    obtain ⟨h1, f1⟩ := a.lk k hk
    obtain ⟨h2, f2⟩ := b.lk k h1
    refine ⟨h2, fun m o e1 e2 => ?_⟩
    obtain ⟨g1, g2⟩ := f1 m o e1 e2
    exact f2 m o g1 g2⟩
mutual
theorem RelV.ex0 (x : Ex0 W h W' h') : ∀ (d : D) (u : U), RelV CT W h d u → RelV CT W' h' d u
  | .non, _, e => by unfold RelV at e ⊢; exact e
  | .bl _, _, e => by unfold RelV at e ⊢; exact e
  | .int _, _, e => by unfold RelV at e ⊢; exact e
  | .str _, _, e => by unfold RelV at e ⊢; exact e
  | .tup ds, u, e => by
    unfold RelV at e ⊢
    obtain ⟨us, e1, e2⟩ := e
    exact ⟨us, e1, RelVs.ex0 x ds us e2⟩
  | .lst ds, u, e => by
    unfold RelV at e ⊢
    obtain ⟨m, us, e1, e2, e3, e4⟩ := e
    obtain ⟨f1, f2⟩ := x.fr m _ e2 e3
    exact ⟨m, us, e1, f1, f2, RelVs.ex0 x ds us e4⟩
  | .frz ds, u, e => by
    unfold RelV at e ⊢
    obtain ⟨m, us, e1, e2, e3, e4⟩ := e
    obtain ⟨f1, f2⟩ := x.fr m _ e2 e3
    exact ⟨m, us, e1, f1, f2, RelVs.ex0 x ds us e4⟩
  | .obj c ds, u, e => by
    unfold RelV at e ⊢
    obtain ⟨m, fs, e1, e2, e3, e4, e5⟩ := e
    obtain ⟨f1, f2⟩ := x.fr m _ e2 e3
    exact ⟨m, fs, e1, f1, f2, e4, RelVs.ex0 x ds _ e5⟩
  | .pen, u, e => by
    unfold RelV at e ⊢
    obtain ⟨q, e1, e2⟩ := e
    exact ⟨q, x.pens q e1, e2⟩
  | .ref k, u, e => by
    unfold RelV at e ⊢
    obtain ⟨om, e1, e2⟩ := e
    cases om with
    | none => exact ⟨none, x.dd k e1, fun m z => nomatch z⟩
    | some m =>
      rcases x.io k m e1 with e3 | e3
      · exact ⟨_, e3, e2⟩
      · exact ⟨_, e3, fun m z => nomatch z⟩
theorem RelVs.ex0 (x : Ex0 W h W' h') : ∀ (ds : List D) (us : List U), RelVs CT W h ds us → RelVs CT W' h' ds us
  | [], _, e => by unfold RelVs at e ⊢; exact e
  | d :: ds, us, e => by
    unfold RelVs at e ⊢
    obtain ⟨u, r, e1, e2, e3⟩ := e
    exact ⟨u, r, e1, RelV.ex0 x d u e2, RelVs.ex0 x ds r e3⟩
end
theorem RelV.ex (x : Ex W h W' h') (d : D) (u : U) (e : RelV CT W h d u) : RelV CT W' h' d u := RelV.ex0 x.toEx0 d u e
theorem RelVs.ex (x : Ex W h W' h') (ds : List D) (us : List U) (e : RelVs CT W h ds us) : RelVs CT W' h' ds us := RelVs.ex0 x.toEx0 ds us e
theorem RelKs.ex0 (x : Ex0 W h W' h') : ∀ {ds : List (D × D)} {us : List (U × U)}, RelKs CT W h ds us → RelKs CT W' h' ds us
  | [], _, e => by unfold RelKs at e ⊢; exact e
  | d :: ds, us, e => by
    unfold RelKs at e ⊢
    obtain ⟨u, r, e1, e2, e3, e4⟩ := e
    exact ⟨u, r, e1, RelV.ex0 x _ _ e2, RelV.ex0 x _ _ e3, RelKs.ex0 x e4⟩
theorem RelO.ex0 (x : Ex0 W h W' h') {o : DO} {vo : VO} (e : RelO CT W h o vo) : RelO CT W' h' o vo := by
  cases o with
  | lst ds =>
    obtain ⟨us, e1, e2⟩ := e
    exact ⟨us, e1, RelVs.ex0 x _ _ e2⟩
  | dct ds =>
    obtain ⟨us, e1, e2⟩ := e
    exact ⟨us, e1, e2.ex0 x⟩
  | ins c ds =>
    obtain ⟨us, e1, e2, e3⟩ := e
    exact ⟨us, e1, e2, RelVs.ex0 x _ _ e3⟩
  | ded => exact e.elim
  | lck ds =>
    obtain ⟨us, e1, e2⟩ := e
    exact ⟨us, e1, RelVs.ex0 x _ _ e2⟩
theorem RelKs.ex (x : Ex W h W' h') {ds : List (D × D)} {us : List (U × U)} (e : RelKs CT W h ds us) : RelKs CT W' h' ds us := e.ex0 x.toEx0
theorem RelO.ex (x : Ex W h W' h') {o : DO} {vo : VO} (e : RelO CT W h o vo) : RelO CT W' h' o vo := e.ex0 x.toEx0
theorem RelVs.len : ∀ {ds : List D} {us : List U}, RelVs CT W h ds us → us.length = ds.length
  | [], us, e => by unfold RelVs at e; subst e; rfl
  | d :: ds, us, e => by
    unfold RelVs at e
    obtain ⟨u, r, rfl, _, e3⟩ := e
    rw [List.length_cons, List.length_cons, RelVs.len e3]
theorem RelVs.nil : RelVs CT W h [] [] := by unfold RelVs; rfl
theorem RelVs.cons {d : D} {ds : List D} {u : U} {us : List U} (a : RelV CT W h d u) (b : RelVs CT W h ds us) : RelVs CT W h (d :: ds) (u :: us) := by
  unfold RelVs
  exact ⟨u, us, rfl, a, b⟩
theorem RelVs.one {d : D} {u : U} (a : RelV CT W h d u) : RelVs CT W h [d] [u] := .cons a .nil
theorem RelVs.uncons {d : D} {ds : List D} {us : List U} (e : RelVs CT W h (d :: ds) us) : ∃ u r, us = u :: r ∧ RelV CT W h d u ∧ RelVs CT W h ds r := by
  unfold RelVs at e
  exact e
theorem RelVs.append : ∀ {ds es : List D} {us vs : List U}, RelVs CT W h ds us → RelVs CT W h es vs → RelVs CT W h (ds ++ es) (us ++ vs)
  | [], es, us, vs, a, b => by unfold RelVs at a; subst a; exact b
  | d :: ds, es, us, vs, a, b => by
    obtain ⟨u, r, rfl, a1, a2⟩ := a.uncons
    exact .cons a1 (a2.append b)
theorem RelVs.get : ∀ {ds : List D} {us : List U} {i : Nat} {d : D}, RelVs CT W h ds us → ds[i]? = some d → ∃ u, us[i]? = some u ∧ RelV CT W h d u
  | [], _, _, _, _, q => by simp at q
  | d :: ds, us, i, w, e, q => by
    obtain ⟨u, r, rfl, e2, e3⟩ := e.uncons
    cases i with
    | zero =>
      have q' : d = w := by simpa using q
      subst q'
      exact ⟨u, rfl, e2⟩
    | succ i => exact e3.get (i := i) (by simpa using q)
theorem RelVs.set : ∀ {ds : List D} {us : List U} {d : D} {u : U} (i : Nat), RelVs CT W h ds us → RelV CT W h d u → RelVs CT W h (ds.set i d) (us.set i u)
  | [], _, _, _, _, e, _ => by unfold RelVs at e; subst e; exact .nil
  | w :: ds, us, d, u, i, e, q => by
    obtain ⟨z, r, rfl, e2, e3⟩ := e.uncons
    cases i with
    | zero => exact .cons q e3
    | succ i => exact .cons e2 (e3.set i q)
theorem RelVs.drop : ∀ {ds : List D} {us : List U} (i : Nat), RelVs CT W h ds us → RelVs CT W h (ds.drop i) (us.drop i)
  | _, _, 0, e => e
  | [], _, i + 1, e => by unfold RelVs at e; subst e; exact .nil
  | d :: ds, us, i + 1, e => by
    obtain ⟨z, r, rfl, _, e3⟩ := e.uncons
    exact RelVs.drop i e3
theorem RelVs.take : ∀ {ds : List D} {us : List U} (i : Nat), RelVs CT W h ds us → RelVs CT W h (ds.take i) (us.take i)
  | _, _, 0, _ => by rw [List.take_zero, List.take_zero]; exact .nil
  | [], _, i + 1, e => by unfold RelVs at e; subst e; exact .nil
  | d :: ds, us, i + 1, e => by
    obtain ⟨z, r, rfl, e2, e3⟩ := e.uncons
    exact .cons e2 (RelVs.take i e3)
theorem RelVs.dropLast {ds : List D} {us : List U} (e : RelVs CT W h ds us) : RelVs CT W h ds.dropLast us.dropLast := by
  rw [List.dropLast_eq_take, List.dropLast_eq_take, e.len]
  exact e.take _
theorem RelVs.reverse : ∀ {ds : List D} {us : List U}, RelVs CT W h ds us → RelVs CT W h ds.reverse us.reverse
  | [], us, e => by unfold RelVs at e; subst e; exact .nil
  | d :: ds, us, e => by
    obtain ⟨z, r, rfl, e2, e3⟩ := e.uncons
    rw [List.reverse_cons, List.reverse_cons]
    exact e3.reverse.append (.one e2)
theorem RelVs.rep {ds : List D} {us : List U} (e : RelVs CT W h ds us) : ∀ k : Nat, RelVs CT W h (List.replicate k ds).flatten (List.replicate k us).flatten
  | 0 => .nil
  | k + 1 => by
    rw [List.replicate_succ, List.replicate_succ, List.flatten_cons, List.flatten_cons]
    exact e.append (e.rep k)
theorem RelVs.map {α : Type} {f : α → D} {g : α → U} (hfg : ∀ a, RelV CT W h (f a) (g a)) : ∀ (l : List α), RelVs CT W h (l.map f) (l.map g)
  | [] => .nil
  | a :: l => .cons (hfg a) (RelVs.map hfg l)
theorem RelVs.of_map {α : Type} {f : α → D} {g : α → U} (hfg : ∀ a u, RelV CT W h (f a) u → u = g a) : ∀ {l : List α} {us : List U}, RelVs CT W h (l.map f) us → us = l.map g
  | [], us, e => by
    unfold RelVs at e
    exact e
  | a :: l, us, e => by
    obtain ⟨u, r, rfl, e1, e2⟩ := RelVs.uncons e
    rw [hfg a u e1, RelVs.of_map hfg e2]
    rfl
theorem rel_int {i : Int} : RelV CT W h (.int i) (.int i) := by unfold RelV; rfl
theorem rel_bl {i : Bool} : RelV CT W h (.bl i) (.bl i) := by unfold RelV; rfl
theorem rel_str {i : Str} : RelV CT W h (.str i) (.str i) := by unfold RelV; rfl
theorem rel_non : RelV CT W h .non .non := by unfold RelV; rfl
theorem rel_tup {ds : List D} {us : List U} (e : RelVs CT W h ds us) : RelV CT W h (.tup ds) (.tup us) := by unfold RelV; exact ⟨us, rfl, e⟩

/-! ### the heap -/
theorem Rl.live (R : Rl CT W n s h) {k : Nat} {o : DO} (e : s[k]? = some o) (ho : o ≠ .ded) : ∃ m vo, W.ι[k]? = some (some m) ∧ h[m]? = some vo ∧ RelO CT W h o vo ∧ ¬ W.pn m := by
  have hk : k < W.ι.length := by rw [R.len]; exact (List.getElem?_eq_some_iff.mp e).1
  cases e1 : W.ι[k] with
  | none =>
    have := R.ded k (by rw [List.getElem?_eq_getElem hk, e1])
    rw [e] at this
    exact absurd (Option.some.inj this) ho
  | some m =>
    have e2 : W.ι[k]? = some (some m) := by rw [List.getElem?_eq_getElem hk, e1]
    obtain ⟨o', vo, q1, q2, q3, q4⟩ := R.obj k m e2
    rw [e] at q1
    cases q1
    exact ⟨m, vo, e2, q2, q3, q4⟩
theorem Rl.ref (R : Rl CT W n s h) {k : Nat} {o : DO} {u : U} (r : RelV CT W h (.ref k) u) (e : s[k]? = some o) (ho : o ≠ .ded) : ∃ m vo, W.ι[k]? = some (some m) ∧ u = .ref m ∧ h[m]? = some vo ∧ RelO CT W h o vo ∧ ¬ W.pn m := by
  obtain ⟨m, vo, e1, e2, e3, e4⟩ := R.live e ho
  unfold RelV at r
  obtain ⟨om, r1, r2⟩ := r
  rw [e1] at r1
  cases r1
  exact ⟨m, vo, e1, r2 m rfl, e2, e3, e4⟩
theorem Rl.lst (R : Rl CT W n s h) {k : Nat} {xs : List D} {u : U} (r : RelV CT W h (.ref k) u) (e : s[k]? = some (.lst xs)) : ∃ m us, W.ι[k]? = some (some m) ∧ u = .ref m ∧ h[m]? = some (.lst us) ∧ RelVs CT W h xs us := by
  obtain ⟨m, vo, e1, e2, e3, e4, _⟩ := R.ref r e (fun z => nomatch z)
  obtain ⟨us, rfl, e5⟩ := e4
  exact ⟨m, us, e1, e2, e3, e5⟩
theorem Rl.lt (R : Rl CT W n s h) {m : Nat} (e : some m ∈ W.ι) : m < h.length := by
  obtain ⟨k, hk⟩ := List.getElem?_of_mem e
  obtain ⟨_, _, _, q, _⟩ := R.obj k m hk
  exact (List.getElem?_eq_some_iff.mp q).1
theorem Rl.ltp (R : Rl CT W n s h) {m : Nat} (e : W.pn m) : m < h.length := by
  obtain ⟨q, hq, e⟩ := e
  obtain ⟨_, _, p1, p2, _⟩ := R.pen q hq
  rcases e with rfl | rfl
  · exact (List.getElem?_eq_some_iff.mp p1).1
  · exact (List.getElem?_eq_some_iff.mp p2).1
theorem Rl.fresh (R : Rl CT W n s h) : W.fr h.length := ⟨fun e => by have := R.lt e; omega, fun e => by have := R.ltp e; omega⟩
theorem at_push {n : Nat} {o x : VO} (e : h[n]? = some x) : (h ++ [o])[n]? = some x := by rw [List.getElem?_append_left (List.getElem?_eq_some_iff.mp e).1]; exact e
theorem at_new {o : VO} : (h ++ [o])[h.length]? = some o := by simp
theorem Ex.push {vo : VO} : Ex W h W (h ++ [vo]) := ⟨⟨fun m o e f => ⟨at_push e, f⟩, fun _ _ e => .inl e, fun _ e => e, fun _ e => e⟩, fun _ hk => ⟨hk, fun _ _ e1 e2 => ⟨e1, at_push e2⟩⟩⟩
theorem PenA.push {q : Nat × Nat} {vo : VO} (a : PenA n h q) : PenA n (h ++ [vo]) q := by
  obtain ⟨sp, ce, a1, a2, a3, a4, a5⟩ := a
  exact ⟨sp, ce, at_push a1, at_push a2, a3, a4, a5⟩
theorem Rl.push (R : Rl CT W n s h) {vo : VO} : Rl CT W n s (h ++ [vo]) := ⟨R.len, R.inj, fun k m e => by
  obtain ⟨o, vo, e1, e2, e3, e4⟩ := R.obj k m e
  exact ⟨o, vo, e1, at_push e2, e3.ex .push, e4⟩, R.ded, fun q hq => (R.pen q hq).push, R.lk, R.pdj⟩
theorem fresh_lst (R : Rl CT W n s h) {ds : List D} {us : List U} (e : RelVs CT W h ds us) : RelV CT W (h ++ [.lst us]) (.lst ds) (.ref h.length) := by
  unfold RelV
  exact ⟨_, us, rfl, at_new, R.fresh, e.ex .push⟩
/-- a new object that may change -/
def Wd.add (W : Wd) (m : Nat) : Wd := ⟨W.ι ++ [some m], W.pens, W.lk⟩
theorem add_at {W : Wd} {m k : Nat} {o : Option Nat} (e : W.ι[k]? = some o) : (W.add m).ι[k]? = some o := by
  show (W.ι ++ [some m])[k]? = _
  rw [List.getElem?_append_left (List.getElem?_eq_some_iff.mp e).1]
  exact e
theorem add_new {W : Wd} {m : Nat} : (W.add m).ι[W.ι.length]? = some (some m) := by
  show (W.ι ++ [some m])[_]? = _
  simp
theorem add_inv {W : Wd} {m k : Nat} {o : Option Nat} (e : (W.add m).ι[k]? = some o) : W.ι[k]? = some o ∨ k = W.ι.length ∧ o = some m := by
  have e' : (W.ι ++ [some m])[k]? = some o := e
  by_cases hk : k < W.ι.length
  · rw [List.getElem?_append_left hk] at e'
    exact .inl e'
  · rw [List.getElem?_append_right (by omega)] at e'
    have h1 := (List.getElem?_eq_some_iff.mp e').1
    have hk2 : k = W.ι.length := by simp at h1; omega
    subst hk2
    simp at e'
    exact .inr ⟨rfl, e'.symm⟩
theorem Ex.add (R : Rl CT W n s h) {vo : VO} : Ex W h (W.add h.length) (h ++ [vo]) := ⟨⟨fun m o e f => ⟨at_push e, fun z => by
    have z' : some m ∈ W.ι ++ [some h.length] := z
    rcases List.mem_append.mp z' with z | z
    · exact f.1 z
    · have : m = h.length := by simpa using z
      have := (List.getElem?_eq_some_iff.mp e).1
      omega, f.2⟩, fun _ _ e => .inl (add_at e), fun _ e => add_at e, fun _ e => e⟩, fun _ hk => ⟨hk, fun _ _ e1 e2 => ⟨add_at e1, at_push e2⟩⟩⟩
theorem Rl.add (R : Rl CT W n s h) {o : DO} {vo : VO} (r : RelO CT W h o vo) : Rl CT (W.add h.length) n (s ++ [o]) (h ++ [vo]) := by
  refine ⟨?_, fun k j m e1 e2 => ?_, fun k m e => ?_, fun k e => ?_, fun q hq => (R.pen q hq).push, fun k hk => ?_, R.pdj⟩
  rotate_right
  · obtain ⟨xs, e⟩ := R.lk k hk
    exact ⟨xs, by rw [List.getElem?_append_left (List.getElem?_eq_some_iff.mp e).1]; exact e⟩
  · show (W.ι ++ [_]).length = _
    simp [R.len]
  · rcases add_inv e1 with e1 | ⟨e1, f1⟩ <;> rcases add_inv e2 with e2 | ⟨e2, f2⟩
    · exact R.inj k j m e1 e2
    · cases f2
      have := R.lt (List.mem_of_getElem? e1)
      omega
    · cases f1
      have := R.lt (List.mem_of_getElem? e2)
      omega
    · rw [e1, e2]
  · rcases add_inv e with e | ⟨e9, f⟩
    · obtain ⟨o', vo', e1, e2, e3, e4⟩ := R.obj k m e
      exact ⟨o', vo', by rw [List.getElem?_append_left (List.getElem?_eq_some_iff.mp e1).1]; exact e1, at_push e2, e3.ex (.add R), e4⟩
    · cases f
      subst e9
      exact ⟨o, vo, by rw [R.len]; simp, at_new, r.ex (.add R), R.fresh.2⟩
  · rcases add_inv e with e | ⟨e, f⟩
    · have := R.ded k e
      rw [List.getElem?_append_left (List.getElem?_eq_some_iff.mp this).1]
      exact this
    · cases f
/-- a known object is written -/
theorem Ex.write (R : Rl CT W n s h) {k m : Nat} {vo : VO} {o0 : DO} (e : W.ι[k]? = some (some m)) (hs : s[k]? = some o0) (ho : ∀ ys, o0 ≠ .lck ys := by intro ys z; cases z) : Ex W h W (h.set m vo) := ⟨⟨fun j o e1 f => ⟨by
    have : m ≠ j := fun z => f.1 (by rw [← z]; exact List.mem_of_getElem? e)
    rw [List.getElem?_set_ne this]
    exact e1, f⟩, fun _ _ e => .inl e, fun _ e => e, fun _ e => e⟩, fun j hj => ⟨hj, fun i o e1 e2 => by
    obtain ⟨xs, e3⟩ := R.lk j hj
    have hjk : k ≠ j := fun z => by
      rw [← z, hs] at e3
      exact ho xs (Option.some.inj e3)
    have : m ≠ i := fun z => hjk (R.inj k j m e (by rw [z]; exact e1))
    exact ⟨e1, by rw [List.getElem?_set_ne this]; exact e2⟩⟩⟩
theorem Rl.write (R : Rl CT W n s h) {k m : Nat} {o o0 : DO} {vo : VO} (hs : s[k]? = some o0) (e : W.ι[k]? = some (some m)) (r : RelO CT W h o vo) (ho : o ≠ .ded) (hl : ∀ ys, o0 ≠ .lck ys := by intro ys z; cases z) : Rl CT W n (s.set k o) (h.set m vo) := by
  obtain ⟨o9, vo0, q1, q2, q3, q4⟩ := R.obj k m e
  have xw : Ex W h W (h.set m vo) := .write R e hs hl
  refine ⟨by rw [List.length_set]; exact R.len, R.inj, fun j i e1 => ?_, fun j e1 => ?_, fun q hq => ?_, fun j hj => ?_, R.pdj⟩
  rotate_right
  · obtain ⟨xs, e3⟩ := R.lk j hj
    have hjk : k ≠ j := fun z => by
      rw [← z, hs] at e3
      exact hl xs (Option.some.inj e3)
    exact ⟨xs, by rw [List.getElem?_set_ne hjk]; exact e3⟩
  · obtain ⟨o1, vo1, p1, p2, p3, p4⟩ := R.obj j i e1
    by_cases hj : k = j
    · subst hj
      rw [e] at e1
      cases e1
      refine ⟨o, vo, ?_, ?_, r.ex xw, q4⟩
      · rw [List.getElem?_set, if_pos rfl, if_pos (List.getElem?_eq_some_iff.mp q1).1]
      · rw [List.getElem?_set, if_pos rfl, if_pos (List.getElem?_eq_some_iff.mp q2).1]
    · have hi : m ≠ i := fun z => hj (R.inj k j m e (by rw [z]; exact e1))
      exact ⟨o1, vo1, by rw [List.getElem?_set_ne hj]; exact p1, by rw [List.getElem?_set_ne hi]; exact p2, p3.ex xw, p4⟩
  · have hj : k ≠ j := fun z => by rw [← z, e] at e1; cases e1
    rw [List.getElem?_set_ne hj]
    exact R.ded j e1
  · obtain ⟨sp, ce, a1, a2, a3, a4, a5⟩ := R.pen q hq
    have n1 : m ≠ q.1 := fun z => q4 ⟨q, hq, .inl z⟩
    have n2 : m ≠ q.2 := fun z => q4 ⟨q, hq, .inr z⟩
    exact ⟨sp, ce, by rw [List.getElem?_set_ne n1]; exact a1, by rw [List.getElem?_set_ne n2]; exact a2, a3, a4, a5⟩
/-- a known object is changed no more -/
def Wd.kill (W : Wd) (k : Nat) : Wd := ⟨W.ι.set k none, W.pens, W.lk⟩
theorem kill_inv {k j : Nat} {o : Option Nat} (e : (W.kill k).ι[j]? = some o) : (j = k ∧ o = none) ∨ W.ι[j]? = some o ∧ j ≠ k := by
  have e' : (W.ι.set k none)[j]? = some o := e
  by_cases hj : k = j
  · subst hj
    rw [List.getElem?_set, if_pos rfl] at e'
    split at e'
    · exact .inl ⟨rfl, (Option.some.inj e').symm⟩
    · cases e'
  · rw [List.getElem?_set_ne hj] at e'
    exact .inr ⟨e', fun z => hj z.symm⟩
theorem kill_at {k j : Nat} {o : Option Nat} (e : W.ι[j]? = some o) : (W.kill k).ι[j]? = some (if j = k then none else o) := by
  show (W.ι.set k none)[j]? = _
  by_cases hj : k = j
  · subst hj
    rw [List.getElem?_set, if_pos rfl, if_pos (List.getElem?_eq_some_iff.mp e).1, if_pos rfl]
  · rw [List.getElem?_set_ne hj, e, if_neg fun z => hj z.symm]
theorem Ex.kill (R : Rl CT W n s h) {k : Nat} {o0 : DO} (hs : s[k]? = some o0) (ho : ∀ ys, o0 ≠ .lck ys := by intro ys z; cases z) : Ex W h (W.kill k) h := ⟨⟨fun m o e f => ⟨e, ⟨(fun z => by
    have z' : some m ∈ W.ι.set k none := z
    rcases List.mem_or_eq_of_mem_set z' with z | z
    · exact f.1 z
    · cases z), f.2⟩⟩, fun j m e => by
    rw [kill_at e]
    by_cases hj : j = k
    · rw [if_pos hj]; exact .inr rfl
    · rw [if_neg hj]; exact .inl rfl, fun j e => by
    rw [kill_at e]
    by_cases hj : j = k
    · rw [if_pos hj]
    · rw [if_neg hj], fun _ e => e⟩, fun j hj => ⟨hj, fun i o e1 e2 => by
    obtain ⟨xs, e3⟩ := R.lk j hj
    have hjk : j ≠ k := fun z => by
      rw [z, hs] at e3
      exact ho xs (Option.some.inj e3)
    rw [kill_at e1, if_neg hjk]
    exact ⟨rfl, e2⟩⟩⟩
theorem Rl.kill (R : Rl CT W n s h) {k : Nat} {o0 : DO} (hs : s[k]? = some o0) (ho : ∀ ys, o0 ≠ .lck ys := by intro ys z; cases z) : Rl CT (W.kill k) n (s.set k .ded) h := by
  have xk : Ex W h (W.kill k) h := .kill R hs ho
  refine ⟨?_, fun a b m e1 e2 => ?_, fun j m e => ?_, fun j e => ?_, R.pen, fun j hj => ?_, R.pdj⟩
  rotate_right
  · obtain ⟨xs, e3⟩ := R.lk j hj
    have hjk : k ≠ j := fun z => by
      rw [← z, hs] at e3
      exact ho xs (Option.some.inj e3)
    exact ⟨xs, by rw [List.getElem?_set_ne hjk]; exact e3⟩
  · show (W.ι.set _ _).length = _
    simp [R.len]
  · rcases kill_inv e1 with ⟨_, z⟩ | ⟨e1, _⟩
    · cases z
    rcases kill_inv e2 with ⟨_, z⟩ | ⟨e2, _⟩
    · cases z
    exact R.inj a b m e1 e2
  · rcases kill_inv e with ⟨_, z⟩ | ⟨e, hj⟩
    · cases z
    obtain ⟨o, vo, e1, e2, e3, e4⟩ := R.obj j m e
    exact ⟨o, vo, by rw [List.getElem?_set_ne fun z => hj z.symm]; exact e1, e2, e3.ex xk, e4⟩
  · rcases kill_inv e with ⟨z, _⟩ | ⟨e, hj⟩
    · subst z
      have : j < s.length := by
        have := (List.getElem?_eq_some_iff.mp e).1
        have h2 : (W.kill j).ι.length = W.ι.length := by show (W.ι.set _ _).length = _; simp
        rw [h2, R.len] at this
        exact this
      rw [List.getElem?_set, if_pos rfl, if_pos this]
    · rw [List.getElem?_set_ne fun z => hj z.symm]
      exact R.ded j e
theorem kill_fr (R : Rl CT W n s h) {k m : Nat} (e : W.ι[k]? = some (some m)) : (W.kill k).fr m := by
  obtain ⟨_, _, _, _, _, q4⟩ := R.obj k m e
  refine ⟨fun z => ?_, q4⟩
  obtain ⟨j, hj⟩ := List.getElem?_of_mem z
  rcases kill_inv hj with ⟨_, z⟩ | ⟨e2, hne⟩
  · cases z
  · exact hne (R.inj j k m e2 e)
theorem Rl.more (R : Rl CT W n s h) {n' : Nat} (hn : n ≤ n') : Rl CT W n' s h := ⟨R.len, R.inj, R.obj, R.ded, fun q hq => by
  obtain ⟨sp, ce, a1, a2, a3, a4, a5⟩ := R.pen q hq
  exact ⟨sp, ce, a1, a2, a3, by omega, a5⟩, R.lk, R.pdj⟩
/-- a list is held while it is walked -/
def Wd.lock (W : Wd) (k : Nat) : Wd := ⟨W.ι, W.pens, k :: W.lk⟩
theorem Ex.lock {k : Nat} : Ex W h (W.lock k) h := ⟨⟨fun _ _ e f => ⟨e, f⟩, fun _ _ e => .inl e, fun _ e => e, fun _ e => e⟩, fun _ e => ⟨List.mem_cons_of_mem _ e, fun _ _ e1 e2 => ⟨e1, e2⟩⟩⟩
theorem Rl.lock (R : Rl CT W n s h) {k : Nat} {xs : List D} (hs : s[k]? = some (.lst xs)) : Rl CT (W.lock k) n (s.set k (.lck xs)) h := by
  have hk : k < s.length := (List.getElem?_eq_some_iff.mp hs).1
  refine ⟨by rw [List.length_set]; exact R.len, R.inj, fun j m e => ?_, fun j e => ?_, R.pen, fun j hj => ?_, R.pdj⟩
  · obtain ⟨o, vo, e1, e2, e3, e4⟩ := R.obj j m e
    by_cases hj : k = j
    · subst hj
      rw [hs] at e1
      cases e1
      obtain ⟨us, f1, f2⟩ := e3
      refine ⟨.lck xs, vo, ?_, e2, ⟨us, f1, RelVs.ex .lock _ _ f2⟩, e4⟩
      rw [List.getElem?_set, if_pos rfl, if_pos hk]
    · exact ⟨o, vo, by rw [List.getElem?_set_ne hj]; exact e1, e2, e3.ex .lock, e4⟩
  · have := R.ded j e
    have hj : k ≠ j := fun z => by rw [← z, hs] at this; cases this
    rw [List.getElem?_set_ne hj]
    exact this
  · rcases List.mem_cons.mp hj with rfl | hj
    · exact ⟨xs, by rw [List.getElem?_set, if_pos rfl, if_pos hk]⟩
    · obtain ⟨ys, e⟩ := R.lk j hj
      have hjk : k ≠ j := fun z => by rw [← z, hs] at e; cases e
      exact ⟨ys, by rw [List.getElem?_set_ne hjk]; exact e⟩
def Wd.unlock (W : Wd) (k : Nat) : Wd := ⟨W.ι, W.pens, W.lk.filter fun j => !(j == k)⟩
theorem Ex0.unlock {k : Nat} : Ex0 W h (W.unlock k) h := ⟨fun _ _ e f => ⟨e, f⟩, fun _ _ e => .inl e, fun _ e => e, fun _ e => e⟩
theorem Rl.unlock {s2 : DS} {n2 k : Nat} {xs : List D} (R : Rl CT W n s h) (hs : s[k]? = some (.lst xs)) (x : Ex (W.lock k) h W2 h2) (R2 : Rl CT W2 n2 s2 h2) : Rl CT (W2.unlock k) n2 (s2.set k (.lst xs)) h2 ∧ Ex W h (W2.unlock k) h2 := by
  obtain ⟨hk2, pin⟩ := x.lk k List.mem_cons_self
  obtain ⟨ys, e2⟩ := R2.lk k hk2
  have hk : k < s2.length := (List.getElem?_eq_some_iff.mp e2).1
  obtain ⟨m, vo, f1, f2, f3, f4⟩ := R.live hs (fun z => nomatch z)
  obtain ⟨g1, g2⟩ := pin m vo f1 f2
  have xx : Ex W h (W2.unlock k) h2 := by
    have y : Ex W h W2 h2 := Ex.lock.trans x
    refine ⟨⟨y.fr, y.io, y.dd, y.pens⟩, fun j hj => ?_⟩
    obtain ⟨a, b⟩ := y.lk j hj
    refine ⟨List.mem_filter.mpr ⟨a, ?_⟩, b⟩
    obtain ⟨zs, e⟩ := R.lk j hj
    have hjk : j ≠ k := fun z => by rw [z, hs] at e; cases e
    simpa using hjk
  refine ⟨⟨by rw [List.length_set]; exact R2.len, R2.inj, fun j i e => ?_, fun j e => ?_, R2.pen, fun j hj => ?_, R2.pdj⟩, xx⟩
  · obtain ⟨o, v, e1, e3, e4, e5⟩ := R2.obj j i e
    by_cases hj : k = j
    · subst hj
      have : some (some i) = some (some m) := by rw [← g1]; exact e.symm
      cases this
      refine ⟨.lst xs, vo, ?_, g2, f3.ex xx, e5⟩
      rw [List.getElem?_set, if_pos rfl, if_pos hk]
    · exact ⟨o, v, by rw [List.getElem?_set_ne hj]; exact e1, e3, e4.ex0 .unlock, e5⟩
  · have := R2.ded j e
    have hj : k ≠ j := fun z => by rw [← z, e2] at this; cases this
    rw [List.getElem?_set_ne hj]
    exact this
  · obtain ⟨hj, hjk⟩ := List.mem_filter.mp hj
    obtain ⟨zs, e⟩ := R2.lk j hj
    have hjk : k ≠ j := fun z => by subst z; simp at hjk
    exact ⟨zs, by rw [List.getElem?_set_ne hjk]; exact e⟩
end
end MV
/-! VC: operators and built-in functions. -/
namespace MV
open PySem MP
def RelX (CT : CTab) (W : Wd) (h : VH) (c' : Nat) (ds : List D) (c : Str) (fs : Fs) : Prop := c = (CT c').1 ∧ NamesOk (CT c').2 fs ∧ RelVs CT W h ds (fs.map (·.2))
/-- the run is one of the wishes -/
def Sm (CT : CTab) {α β : Type} (R : Wd → VH → β → α → Prop) (W : Wd) (h : VH) (m : M α) (v : VM β) : Prop := ∀ n s (Q : β → Nat → DS → Prop) (X : XQ), Rl CT W n s h → v Q X n s →
  (∃ a h' W' b n' s', m h = .ok a h' ∧ Ex W h W' h' ∧ Rl CT W' n' s' h' ∧ R W' h' b a ∧ Q b n' s') ∨
  (∃ c fs h' W' c' ds n' s', m h = .exc c fs h' ∧ Ex W h W' h' ∧ Rl CT W' n' s' h' ∧ RelX CT W' h' c' ds c fs ∧ X c' ds n' s')
section
variable {CT : CTab} {W : Wd} {h : VH} {α β γ δ : Type} {R : Wd → VH → β → α → Prop} {R2 : Wd → VH → δ → γ → Prop}
theorem Sm.ret {a : α} {b : β} (r : R W h b a) : Sm CT R W h (mret a) (vret b) := fun n s Q X l q => .inl ⟨a, h, W, b, n, s, rfl, .refl, l, r, q⟩
theorem Sm.bad {m : M α} : Sm CT R W h m vbad := fun n s Q X l q => q.elim
theorem Sm.bnd {m : M α} {v : VM β} {km : α → M γ} {kv : β → VM δ} (a : Sm CT R W h m v) (k : ∀ W' h' a b, Ex W h W' h' → R W' h' b a → Sm CT R2 W' h' (km a) (kv b)) : Sm CT R2 W h (bnd m km) (vbnd v kv) := fun n s Q X l q => by
  rcases a n s _ X l q with ⟨a, h1, W1, b, n1, s1, e1, x1, l1, r1, q1⟩ | ⟨c, fs, h1, W1, c', ds, n1, s1, e1, x1, l1, r1, q1⟩
  · have e : MP.bnd m km h = km a h1 := by unfold MP.bnd; rw [e1]
    rcases k W1 h1 a b x1 r1 n1 s1 Q X l1 q1 with ⟨a2, h2, W2, b2, n2, s2, e2, x2, l2, r2, q2⟩ | ⟨c, fs, h2, W2, c', ds, n2, s2, e2, x2, l2, r2, q2⟩
    · exact .inl ⟨a2, h2, W2, b2, n2, s2, e.trans e2, x1.trans x2, l2, r2, q2⟩
    · exact .inr ⟨c, fs, h2, W2, c', ds, n2, s2, e.trans e2, x1.trans x2, l2, r2, q2⟩
  · have e : MP.bnd m km h = .exc c fs h1 := by unfold MP.bnd; rw [e1]
    exact .inr ⟨c, fs, h1, W1, c', ds, n1, s1, e, x1, l1, r1, q1⟩
theorem Sm.req {p : Prop} {m : M α} {v : VM β} (f : p → Sm CT R W h m v) : Sm CT R W h m (vreq p v) := fun n s Q X l q => f q.1 n s Q X l q.2
theorem Sm.case {c : Bool} {m : M α} {v w : VM β} (f : c = true → Sm CT R W h m v) (g : c = false → Sm CT R W h m w) : Sm CT R W h m (vcase c v w) := fun n s Q X l q => by
  rw [vcase_eq] at q
  cases c with
  | true => exact f rfl n s Q X l (q.1 rfl)
  | false => exact g rfl n s Q X l (q.2 rfl)
theorem Sm.val {m : M α} {v : VM β} (f : ∀ n s Q X, Rl CT W n s h → v Q X n s → ∃ a b, m h = .ok a h ∧ R W h b a ∧ Q b n s) : Sm CT R W h m v := fun n s Q X l q => by
  obtain ⟨a, b, e, r, q⟩ := f n s Q X l q
  exact .inl ⟨a, h, W, b, n, s, e, .refl, l, r, q⟩
theorem Sm.new {m : M α} {v : VM β} (f : ∀ n s Q X, Rl CT W n s h → v Q X n s → ∃ a b vo, m h = .ok a (h ++ [vo]) ∧ R W (h ++ [vo]) b a ∧ Q b n s) : Sm CT R W h m v := fun n s Q X l q => by
  obtain ⟨a, b, vo, e, r, q⟩ := f n s Q X l q
  exact .inl ⟨a, _, W, b, n, s, e, .push, l.push, r, q⟩
theorem Sm.of_eq {m m' : M α} {v : VM β} (e : m h = m' h) (f : Sm CT R W h m' v) : Sm CT R W h m v := fun n s Q X l q => by
  rw [e]
  exact f n s Q X l q
theorem Sm.imp {m : M α} {v : VM β} {R' : Wd → VH → β → α → Prop} (f : Sm CT R W h m v) (i : ∀ W h b a, R W h b a → R' W h b a) : Sm CT R' W h m v := fun n s Q X l q => by
  rcases f n s Q X l q with ⟨a, h1, W1, b, n1, s1, e1, x1, l1, r1, q1⟩ | z
  · exact .inl ⟨a, h1, W1, b, n1, s1, e1, x1, l1, i _ _ _ _ r1, q1⟩
  · exact .inr z
/-! reading -/
theorem lstOf_lst {m : Nat} {us : List U} (e : h[m]? = some (.lst us)) : lstOf h (.ref m) = some us := by unfold lstOf; simp only [e]
theorem lstOf_frz {m : Nat} {us : List U} (e : h[m]? = some (.frz us)) : lstOf h (.ref m) = some us := by unfold lstOf; simp only [e]
theorem Sm.withL {m : M α} {K : List D → VM β} {d : D} {u : U} (r : RelV CT W h d u) (f : ∀ xs us j, u = .ref j → h[j]? = some (.lst us) → RelVs CT W h xs us → Sm CT R W h m (K xs)) : Sm CT R W h m (MV.withL d K) := by
  cases d with
  | lst xs =>
    unfold RelV at r
    obtain ⟨j, us, e1, e2, e3, e4⟩ := r
    exact f xs us j e1 e2 e4
  | ref k =>
    intro n s Q X l q
    obtain ⟨xs, e, q⟩ := q
    obtain ⟨j, us, e1, e2, e3, e4⟩ := l.lst r e
    exact f xs us j e2 e3 e4 n s Q X l q
  | _ => exact Sm.bad
theorem Sm.withF {m : M α} {K : List D → VM β} {d : D} {u : U} (r : RelV CT W h d u) (f : ∀ xs us j, u = .ref j → (h[j]? = some (.lst us) ∨ h[j]? = some (.frz us)) → RelVs CT W h xs us → Sm CT R W h m (K xs)) : Sm CT R W h m (MV.withF d K) := by
  cases d with
  | lst xs =>
    unfold RelV at r
    obtain ⟨j, us, e1, e2, e3, e4⟩ := r
    exact f xs us j e1 (.inl e2) e4
  | frz xs =>
    unfold RelV at r
    obtain ⟨j, us, e1, e2, e3, e4⟩ := r
    exact f xs us j e1 (.inr e2) e4
  | ref k =>
    intro n s Q X l q
    obtain ⟨xs, e, q⟩ := q
    obtain ⟨j, us, e1, e2, e3, e4⟩ := l.lst r e
    exact f xs us j e2 (.inl e3) e4 n s Q X l q
  | _ => exact Sm.bad
theorem Sm.withS {m : M α} {K : List D → VM β} {d : D} {u : U} (r : RelV CT W h d u) (f : ∀ xs us, seqOf h u = some us → (u = .tup us ∨ ∃ j, u = .ref j ∧ (h[j]? = some (.lst us) ∨ h[j]? = some (.frz us))) → RelVs CT W h xs us → Sm CT R W h m (K xs)) : Sm CT R W h m (MV.withS d K) := by
  cases d with
  | tup xs =>
    unfold RelV at r
    obtain ⟨us, e1, e2⟩ := r
    subst e1
    exact f xs us rfl (.inl rfl) e2
  | lst xs =>
    unfold RelV at r
    obtain ⟨j, us, e1, e2, e3, e4⟩ := r
    subst e1
    exact f xs us (lstOf_lst e2) (.inr ⟨j, rfl, .inl e2⟩) e4
  | frz xs =>
    unfold RelV at r
    obtain ⟨j, us, e1, e2, e3, e4⟩ := r
    subst e1
    exact f xs us (lstOf_frz e2) (.inr ⟨j, rfl, .inr e2⟩) e4
  | ref k =>
    intro n s Q X l q
    obtain ⟨xs, e, q⟩ := q
    obtain ⟨j, us, e1, e2, e3, e4⟩ := l.lst r e
    subst e2
    exact f xs us (lstOf_lst e3) (.inr ⟨j, rfl, .inl e3⟩) e4 n s Q X l q
  | _ => exact Sm.bad
theorem Sm.newL {ds : List D} {us : List U} (r : RelVs CT W h ds us) : Sm CT (RelV CT) W h (newL us) (vret (.lst ds)) := .new fun n s Q X l q => ⟨.ref h.length, .lst ds, .lst us, rfl, fresh_lst l r, q⟩
theorem Sm.newM {ds : List D} {us : List U} (r : RelVs CT W h ds us) : Sm CT (RelV CT) W h (MP.newL us) (vnewL ds) := fun n s Q X l q => by
  refine .inl ⟨.ref h.length, h ++ [.lst us], W.add h.length, .ref s.length, n, s ++ [DO.lst ds], rfl, .add l, l.add (o := .lst ds) ⟨us, rfl, r⟩, ?_, q⟩
  unfold RelV
  refine ⟨some h.length, ?_, fun m z => by cases z; rfl⟩
  rw [← l.len]
  exact add_new
end
/-! ### operators -/
section
variable {CT : CTab} {W : Wd} {h : VH}
def OpS (CT : CTab) (f : O2) (g : V2) : Prop := ∀ W h d e u v, RelV CT W h d u → RelV CT W h e v → Sm CT (RelV CT) W h (f u v) (g d e)
theorem s_opI {f : Int → Int → Option U} {g : Int → Int → D} (e : ∀ i j, ∃ w, f i j = some w ∧ ∀ W h, RelV CT W h (g i j) w) : OpS CT (opI f) (viop g) := fun W h d d2 u v r1 r2 => by
  cases d <;> first | exact Sm.bad | skip
  cases d2 <;> first | exact Sm.bad | skip
  unfold RelV at r1 r2
  subst r1; subst r2
  rename_i i j
  obtain ⟨w, e1, e2⟩ := e i j
  have : opI f (.int i) (.int j) = mret w := by unfold opI; simp only [e1]
  rw [this]
  exact .ret (e2 W h)
theorem s_sub : OpS CT subU vsub := s_opI fun i j => ⟨_, rfl, fun _ _ => rel_int⟩
theorem s_lt : OpS CT ltU vlt := s_opI fun i j => ⟨_, rfl, fun _ _ => rel_bl⟩
theorem s_le : OpS CT leU vle := s_opI fun i j => ⟨_, rfl, fun _ _ => rel_bl⟩
theorem s_gt : OpS CT gtU vgt := s_opI fun i j => ⟨_, rfl, fun _ _ => rel_bl⟩
theorem s_ge : OpS CT geU vge := s_opI fun i j => ⟨_, rfl, fun _ _ => rel_bl⟩
theorem s_plus : OpS CT (opI fun a b => some (.int (a + b))) (viop fun a b => .int (a + b)) := s_opI fun i j => ⟨_, rfl, fun _ _ => rel_int⟩
theorem s_add : OpS CT addU vadd := fun W h d e u v r1 r2 => by
  have key : Sm CT (RelV CT) W h (addU u v) (MV.withL d fun xs => MV.withL e fun ys => vreq (xs.length + ys.length ≤ sizeLine) (vret (.lst (xs ++ ys)))) := by
    refine .withL r1 fun xs us a ea ha rs => .withL r2 fun ys vs b eb hb rs2 => .req fun c => ?_
    subst ea; subst eb
    refine .of_eq (m' := MP.newL (us ++ vs)) ?_ (.newL (rs.append rs2))
    unfold addU
    simp only [ha, hb]
    rw [if_pos (by rw [rs.len, rs2.len]; exact c)]
  cases d <;> first | exact Sm.bad | exact key | skip
  all_goals (cases e <;> first | exact Sm.bad | skip)
  · unfold RelV at r1 r2
    subst r1; subst r2
    exact .ret rel_int
  · unfold RelV at r1 r2
    subst r1; subst r2
    refine .req fun c => ?_
    unfold addU
    simp only
    rw [if_pos c]
    exact .ret rel_str
  · unfold RelV at r1 r2
    obtain ⟨us, rfl, e1⟩ := r1
    obtain ⟨vs, rfl, e2⟩ := r2
    refine .req fun c => ?_
    unfold addU
    simp only
    rw [if_pos (by rw [e1.len, e2.len]; exact c)]
    exact .ret (rel_tup (e1.append e2))
theorem s_mul : OpS CT mulU vmul := fun W h d e u v r1 r2 => by
  have key : ∀ k : Int, e = .int k → Sm CT (RelV CT) W h (mulU u v) (MV.withL d fun xs => vreq (-(2 ^ 63) ≤ k ∧ k < 2 ^ 63 ∧ xs.length * k.toNat ≤ sizeLine) (vret (.lst (List.replicate k.toNat xs).flatten))) := fun k ek => by
    subst ek
    unfold RelV at r2
    subst r2
    refine .withL r1 fun xs us a ea ha rs => .req fun c => ?_
    subst ea
    refine .of_eq (m' := MP.newL (List.replicate k.toNat us).flatten) ?_ (.newL (rs.rep _))
    unfold mulU
    simp only [ha]
    rw [if_pos (by rw [rs.len]; exact c)]
  cases e <;> first | (cases d <;> exact Sm.bad) | skip
  rename_i k
  unfold RelV at r2
  subst r2
  cases d <;> first | exact Sm.bad | exact key k rfl | skip
  · unfold RelV at r1
    subst r1
    refine .req fun c => ?_
    unfold mulU
    simp only
    rw [if_pos c]
    exact .ret rel_int
  · unfold RelV at r1
    subst r1
    refine .req fun c => ?_
    unfold mulU
    simp only
    rw [if_pos c]
    exact .ret rel_str
  · unfold RelV at r1
    obtain ⟨us, rfl, e1⟩ := r1
    refine .req fun c => ?_
    unfold mulU
    simp only
    have hl := e1.len
    rw [if_pos ⟨fun z => c.1 (by subst z; exact List.length_eq_zero_iff.mp hl.symm), c.2.1, c.2.2.1, by rw [hl]; exact c.2.2.2⟩]
    exact .ret (rel_tup (e1.rep _))
theorem s_ii {f : O2} {g : V2} {p : Int → Int → Prop} {z : Int → Int → Int} (e1 : ∀ i j, g (.int i) (.int j) = vreq (p i j) (vret (.int (z i j)))) (e2 : ∀ i j, p i j → f (.int i) (.int j) = mret (.int (z i j))) (e3 : ∀ d e, (∀ i j, ¬ (d = .int i ∧ e = .int j)) → g d e = vbad) : OpS CT f g := fun W h d e u v r1 r2 => by
  by_cases c : ∃ i j, d = .int i ∧ e = .int j
  · obtain ⟨i, j, rfl, rfl⟩ := c
    unfold RelV at r1 r2
    subst r1; subst r2
    rw [e1]
    refine .req fun c => ?_
    rw [e2 _ _ c]
    exact .ret rel_int
  · rw [e3 d e fun i j z => c ⟨i, j, z⟩]
    exact Sm.bad
theorem s_fdiv : OpS CT fdivU vfdiv := s_ii (fun i j => rfl) (fun i j c => by unfold fdivU opI; simp only; rw [if_pos c]) fun d e c => by
  cases d <;> first | rfl | skip
  cases e <;> first | rfl | exact absurd ⟨rfl, rfl⟩ (c _ _)
theorem s_mod : OpS CT modU vmod := s_ii (fun i j => rfl) (fun i j c => by unfold modU opI; simp only; rw [if_pos c]) fun d e c => by
  cases d <;> first | rfl | skip
  cases e <;> first | rfl | exact absurd ⟨rfl, rfl⟩ (c _ _)
theorem s_pow : OpS CT powU vpow := s_ii (fun i j => rfl) (fun i j c => by unfold powU opI; simp only; rw [if_pos c]) fun d e c => by
  cases d <;> first | rfl | skip
  cases e <;> first | rfl | exact absurd ⟨rfl, rfl⟩ (c _ _)
theorem s_neg {d : D} {u : U} (r : RelV CT W h d u) : Sm CT (RelV CT) W h (negU u) (vneg d) := by
  cases d <;> first | exact Sm.bad | skip
  unfold RelV at r
  subst r
  exact .ret rel_int
/-! comparison -/
mutual
def pd : D → PyData
  | .non => .none
  | .bl b => .bool b
  | .int i => .int i
  | .str x => .str x
  | .tup xs => .tuple (pds xs)
  | .lst xs => .list (pds xs)
  | _ => .none
def pds : List D → List PyData
  | [] => []
  | x :: xs => pd x :: pds xs
end
theorem pds_rel {j k : Nat} (ih : ∀ d u, dataD k d = true → RelV CT W h d u → toD j h u = some (pd d)) : ∀ (xs : List D) (us : List U), xs.all (dataD k) = true → RelVs CT W h xs us → mapO (toD j h) us = some (pds xs)
  | [], us, _, r => by unfold RelVs at r; subst r; rfl
  | x :: xs, us, c, r => by
    obtain ⟨u, vs, rfl, r1, r2⟩ := r.uncons
    rw [List.all_cons, Bool.and_eq_true] at c
    unfold mapO
    rw [ih x u c.1 r1, pds_rel ih xs vs c.2 r2]
    rfl
theorem pd_rel : ∀ (k j : Nat), k ≤ j → ∀ (d : D) (u : U), dataD k d = true → RelV CT W h d u → toD j h u = some (pd d)
  | 0, _, _, _, _, c, _ => by unfold dataD at c; cases c
  | k + 1, 0, hj, _, _, _, _ => by omega
  | k + 1, j + 1, hj, d, u, c, r => by
    have ih := pds_rel (CT := CT) (W := W) (h := h) (j := j) (k := k) fun d u c r => pd_rel k j (by omega) d u c r
    cases d with
    | non => unfold RelV at r; subst r; rfl
    | bl b => unfold RelV at r; subst r; rfl
    | int b => unfold RelV at r; subst r; rfl
    | str b => unfold RelV at r; subst r; rfl
    | tup xs =>
      unfold RelV at r
      obtain ⟨us, rfl, e⟩ := r
      unfold dataD at c
      unfold toD
      simp only
      rw [ih xs us c e]
      rfl
    | lst xs =>
      unfold RelV at r
      obtain ⟨m, us, rfl, e1, e2, e⟩ := r
      unfold dataD at c
      unfold toD
      simp only [e1]
      rw [ih xs us c e]
      rfl
    | _ => unfold dataD at c; cases c
theorem pd_lays : ∀ (k : Nat) (d : D), dataD k d = true → (pd d).canLay0 = true ∧ (pd d).depth ≤ k
  | 0, _, c => by unfold dataD at c; cases c
  | k + 1, d, c => by
    have ih : ∀ xs : List D, xs.all (dataD k) = true → PyData.canLayAll0 (pds xs) = true ∧ PyData.depthAll (pds xs) ≤ k := fun xs => by
      induction xs with
      | nil => intro _; exact ⟨rfl, Nat.zero_le _⟩
      | cons x xs ih2 =>
        intro c
        rw [List.all_cons, Bool.and_eq_true] at c
        obtain ⟨a1, a2⟩ := pd_lays k x c.1
        obtain ⟨b1, b2⟩ := ih2 c.2
        unfold pds PyData.canLayAll0 PyData.depthAll
        exact ⟨by rw [a1, b1]; rfl, by omega⟩
    unfold dataD at c
    cases d with
    | non => exact ⟨rfl, Nat.zero_le _⟩
    | bl b => exact ⟨rfl, Nat.zero_le _⟩
    | int b => exact ⟨rfl, Nat.zero_le _⟩
    | str b => exact ⟨c, Nat.zero_le _⟩
    | tup xs =>
      obtain ⟨a, b⟩ := ih xs c
      exact ⟨a, by unfold pd PyData.depth; omega⟩
    | lst xs =>
      obtain ⟨a, b⟩ := ih xs c
      exact ⟨a, by unfold pd PyData.depth; omega⟩
    | _ => cases c
theorem pd_shaped {k : Nat} {d : D} (hk : k ≤ 60) (c : dataD k d = true) : SeqAt.shaped (pd d) = true := by
  obtain ⟨a, b⟩ := pd_lays k d c
  unfold SeqAt.shaped
  rw [a, decide_eq_true (by omega)]
  rfl
mutual
theorem pd_eqv : ∀ (k j : Nat) (d e : D), dataD k d = true → dataD j e = true → PyData.eqv (pd d) (pd e) = eqD d e
  | 0, _, _, _, c, _ => by unfold dataD at c; cases c
  | _, 0, _, _, _, c => by unfold dataD at c; cases c
  | k + 1, j + 1, d, e, c1, c2 => by
    unfold dataD at c1 c2
    cases d <;> first | (cases c1; done) | skip
    all_goals (cases e <;> first | (cases c2; done) | skip)
    all_goals first | rfl | skip
    · unfold pd eqD PyData.eqv
      exact pds_eqv k j _ _ c1 c2
    · unfold pd eqD PyData.eqv
      exact pds_eqv k j _ _ c1 c2
theorem pds_eqv : ∀ (k j : Nat) (xs ys : List D), xs.all (dataD k) = true → ys.all (dataD j) = true → PyData.eqvAll (pds xs) (pds ys) = eqDs xs ys
  | _, _, [], [], _, _ => rfl
  | _, _, [], _ :: _, _, _ => rfl
  | _, _, _ :: _, [], _, _ => rfl
  | k, j, x :: xs, y :: ys, c1, c2 => by
    rw [List.all_cons, Bool.and_eq_true] at c1 c2
    unfold pds PyData.eqvAll eqDs
    rw [pd_eqv k j x y c1.1 c2.1, pds_eqv k j xs ys c1.2 c2.2]
end
theorem flat_rel {d : D} {u : U} (c : flatD d = true) (r : RelV CT W h d u) : flatU u = true := by
  cases d <;> first | (cases c; done) | skip
  all_goals (unfold RelV at r; subst r; rfl)
theorem eqF_rel {d e : D} {u v : U} (c1 : flatD d = true) (c2 : flatD e = true) (r1 : RelV CT W h d u) (r2 : RelV CT W h e v) : eqF u v = eqD d e := by
  cases d <;> first | (cases c1; done) | skip
  all_goals (cases e <;> first | (cases c2; done) | skip)
  all_goals (unfold RelV at r1 r2; subst r1; subst r2; rfl)
theorem flat_inv {k : Nat} {d : D} {u : U} (c : dataD k d = true) (f : flatU u = true) (r : RelV CT W h d u) : flatD d = true := by
  cases k with
  | zero => unfold dataD at c; cases c
  | succ k =>
    unfold dataD at c
    cases d <;> first | rfl | (cases c; done) | skip
    all_goals exfalso
    all_goals unfold RelV at r
    · obtain ⟨us, rfl, _⟩ := r; cases f
    · obtain ⟨us, _, rfl, _⟩ := r; cases f
/-- what is compared: a value, or a list as it stands -/
def RelD (CT : CTab) (W : Wd) (h : VH) (d : D) (u : U) : Prop := ((∀ k, d ≠ .ref k) ∧ RelV CT W h d u) ∨ ∃ xs us j, d = .lst xs ∧ u = .ref j ∧ h[j]? = some (.lst us) ∧ RelVs CT W h xs us
theorem RelD.toD {d : D} {u : U} (r : RelD CT W h d u) {k j : Nat} (hj : k ≤ j) (c : dataD k d = true) : toD j h u = some (pd d) := by
  rcases r with ⟨_, r⟩ | ⟨xs, us, m, rfl, rfl, e, r⟩
  · exact pd_rel k j hj d u c r
  · cases k with
    | zero => unfold dataD at c; cases c
    | succ k =>
      cases j with
      | zero => omega
      | succ j =>
        unfold dataD at c
        unfold MP.toD
        simp only [e]
        rw [pds_rel (CT := CT) (W := W) (h := h) (j := j) (k := k) (fun d u c r => pd_rel k j (by omega) d u c r) xs us c r]
        rfl
theorem RelD.flat {d : D} {u : U} (r : RelD CT W h d u) (c : flatD d = true) : RelV CT W h d u ∧ flatU u = true := by
  rcases r with ⟨_, r⟩ | ⟨xs, us, m, rfl, rfl, e, r⟩
  · exact ⟨r, flat_rel c r⟩
  · cases c
theorem RelD.inv {k : Nat} {d : D} {u : U} (r : RelD CT W h d u) (c : dataD k d = true) (f : flatU u = true) : flatD d = true := by
  rcases r with ⟨_, r⟩ | ⟨xs, us, m, rfl, rfl, e, r⟩
  · exact flat_inv c f r
  · cases f
theorem Sm.withD {α β : Type} {R : Wd → VH → D → α → Prop} {m : M α} {K : D → VM D} {d : D} {u : U} (r : RelV CT W h d u) (f : ∀ d', RelD CT W h d' u → Sm CT R W h m (K d')) : Sm CT R W h m (MV.withD d K) := by
  cases d with
  | ref k =>
    intro n s Q X l q
    obtain ⟨xs, e, q⟩ := q
    obtain ⟨j, us, e1, e2, e3, e4⟩ := l.lst r e
    exact f (.lst xs) (.inr ⟨xs, us, j, rfl, e2, e3, e4⟩) n s Q X l q
  | _ => exact f _ (.inl ⟨(fun _ z => nomatch z), r⟩)
theorem eqU_rel {d e : D} {u v : U} (c : cmpOk d e = true) (r1 : RelD CT W h d u) (r2 : RelD CT W h e v) : eqU u v h = .ok (eqD d e) h := by
  unfold eqU
  by_cases f : (flatU u && flatU v) = true
  · rw [if_pos f]
    obtain ⟨f1, f2⟩ := Bool.and_eq_true_iff.mp f
    have g : flatD d = true ∧ flatD e = true := by
      unfold cmpOk at c
      rcases Bool.or_eq_true_iff.mp c with c | c
      · exact Bool.and_eq_true_iff.mp c
      · obtain ⟨c1, c2⟩ := Bool.and_eq_true_iff.mp c
        exact ⟨r1.inv c1 f1, r2.inv c2 f2⟩
    rw [eqF_rel g.1 g.2 (r1.flat g.1).1 (r2.flat g.2).1]
  · rw [if_neg f]
    have g : dataD 30 d = true ∧ dataD 30 e = true := by
      unfold cmpOk at c
      rcases Bool.or_eq_true_iff.mp c with c | c
      · obtain ⟨c1, c2⟩ := Bool.and_eq_true_iff.mp c
        exact absurd (Bool.and_eq_true_iff.mpr ⟨(r1.flat c1).2, (r2.flat c2).2⟩) f
      · exact Bool.and_eq_true_iff.mp c
    unfold MP.eqD
    rw [r1.toD (by decide) g.1, r2.toD (by decide) g.2]
    simp only
    rw [if_pos (by rw [pd_shaped (by decide) g.1, pd_shaped (by decide) g.2]; rfl)]
    simp only [pd_eqv 30 30 d e g.1 g.2]
theorem s_eq : OpS CT eqO veq := fun W h d e u v r1 r2 => .withD (β := D) r1 fun d' r1 => .withD (β := D) r2 fun e' r2 => .req fun c => by
  refine .of_eq (m' := mret (.bl (MV.eqD d' e'))) ?_ (.ret rel_bl)
  unfold eqO MP.bnd
  rw [eqU_rel c r1 r2]
theorem s_ne : OpS CT neO vne := fun W h d e u v r1 r2 => .withD (β := D) r1 fun d' r1 => .withD (β := D) r2 fun e' r2 => .req fun c => by
  refine .of_eq (m' := mret (.bl (!MV.eqD d' e'))) ?_ (.ret rel_bl)
  unfold neO MP.bnd
  rw [eqU_rel c r1 r2]
theorem non_rel {d : D} {u : U} (r : RelV CT W h d u) (hr : ∀ k, d ≠ .ref k) : decide (u = .non) = isNon d := by
  cases d <;> unfold RelV at r
  case non => subst r; rfl
  case ref k => exact absurd rfl (hr k)
  case tup => obtain ⟨_, rfl, _⟩ := r; rfl
  case lst => obtain ⟨_, _, rfl, _⟩ := r; rfl
  case frz => obtain ⟨_, _, rfl, _⟩ := r; rfl
  case obj => obtain ⟨_, _, rfl, _⟩ := r; rfl
  case pen => obtain ⟨_, _, rfl⟩ := r; rfl
  all_goals (subst r; rfl)
theorem s_visR {d e : D} {u v : U} {f : Bool → Bool} (r1 : RelV CT W h d u) (r2 : RelV CT W h e v) : Sm CT (RelV CT) W h (MP.bnd (isNU u v) fun r => match r with
    | .bl b => mret (.bl (f b))
    | _ => mbad) (visR d e fun c => vret (.bl (f c))) := by
  cases e <;> first | exact Sm.bad | skip
  · unfold RelV at r2
    subst r2
    have key : (∀ k, d ≠ .ref k) → Sm CT (RelV CT) W h (MP.bnd (isNU u .non) fun r => match r with
        | .bl b => mret (.bl (f b))
        | _ => mbad) (vret (.bl (f (isNon d)))) := fun hr => by
      refine .of_eq (m' := mret (.bl (f (isNon d)))) ?_ (.ret rel_bl)
      unfold MP.bnd isNU
      simp only [mret]
      rw [← non_rel r1 hr]
    by_cases hr : ∃ k, d = .ref k
    · obtain ⟨k, rfl⟩ := hr
      intro n s Q X l q
      obtain ⟨⟨o, q1, q2⟩, q⟩ := q
      obtain ⟨m, vo, e1, e2, _⟩ := l.ref r1 q1 q2
      subst e2
      exact Sm.of_eq (m' := mret (U.bl (f false))) rfl (.ret rel_bl) n s Q X l q
    · cases d <;> first | exact key (fun _ z => nomatch z) | exact absurd ⟨_, rfl⟩ hr
  · unfold RelV at r2
    subst r2
    cases d <;> first | exact Sm.bad | skip
    unfold RelV at r1
    subst r1
    exact .of_eq (m' := mret (.bl (f _))) rfl (.ret rel_bl)

theorem s_is : OpS CT isNU vis := fun W h d e u v r1 r2 => by
  refine .of_eq ?_ (s_visR (f := fun b => b) r1 r2)
  unfold MP.bnd
  cases v <;> try rfl
  cases u <;> rfl
theorem s_isn : OpS CT notNU visn := fun W h d e u v r1 r2 => s_visR (f := fun b => !b) r1 r2
theorem flats_rel : ∀ {ds : List D} {us : List U}, ds.all flatD = true → RelVs CT W h ds us → us.all flatU = true
  | [], us, _, r => by unfold RelVs at r; subst r; rfl
  | d :: ds, us, c, r => by
    obtain ⟨u, vs, rfl, r1, r2⟩ := r.uncons
    rw [List.all_cons, Bool.and_eq_true] at c ⊢
    exact ⟨flat_rel c.1 r1, flats_rel c.2 r2⟩
theorem anyF_rel {d : D} {u : U} (c : flatD d = true) (r : RelV CT W h d u) : ∀ {ds : List D} {us : List U}, ds.all flatD = true → RelVs CT W h ds us → (us.any fun z => eqF z u) = ds.any fun z => eqD z d
  | [], us, _, r => by unfold RelVs at r; subst r; rfl
  | e :: ds, us, c2, q => by
    obtain ⟨w, vs, rfl, r1, r2⟩ := q.uncons
    rw [List.all_cons, Bool.and_eq_true] at c2
    rw [List.any_cons, List.any_cons, eqF_rel c2.1 c r1 r, anyF_rel c r c2.2 r2]
theorem anyD_eq {d : D} (c : dataD 30 d = true) : ∀ {ds : List D}, ds.all (dataD 30) = true → ((pds ds).any fun z => PyData.eqv z (pd d)) = ds.any fun z => eqD z d
  | [], _ => rfl
  | e :: ds, c2 => by
    rw [List.all_cons, Bool.and_eq_true] at c2
    unfold pds
    rw [List.any_cons, List.any_cons, pd_eqv 30 30 e d c2.1 c, anyD_eq c c2.2]
theorem flats_inv {k : Nat} : ∀ {ds : List D} {us : List U}, ds.all (dataD k) = true → us.all flatU = true → RelVs CT W h ds us → ds.all flatD = true
  | [], us, _, _, r => rfl
  | d :: ds, us, c, f, r => by
    obtain ⟨u, vs, rfl, r1, r2⟩ := r.uncons
    rw [List.all_cons, Bool.and_eq_true] at c f ⊢
    exact ⟨flat_inv c.1 f.1 r1, flats_inv c.2 f.2 r2⟩
theorem pds_shaped {ds : List D} (c : ds.all (dataD 30) = true) : SeqAt.shaped (.list (pds ds)) = true := by
  have : dataD 31 (.lst ds) = true := by unfold dataD; exact c
  exact pd_shaped (d := .lst ds) (by decide) this
theorem inL_rel {d : D} {u : U} {ds : List D} {us : List U} (r : RelV CT W h d u) (rs : RelVs CT W h ds us) (c : inOk d ds = true) : inL u h (some us) = .ok (ds.any fun z => eqD z d) h := by
  unfold inL
  simp only
  by_cases f : (flatU u && us.all flatU) = true
  · rw [if_pos f]
    obtain ⟨f1, f2⟩ := Bool.and_eq_true_iff.mp f
    have g : flatD d = true ∧ ds.all flatD = true := by
      unfold inOk at c
      rcases Bool.or_eq_true_iff.mp c with c | c
      · exact Bool.and_eq_true_iff.mp c
      · obtain ⟨c1, c2⟩ := Bool.and_eq_true_iff.mp c
        exact ⟨flat_inv c1 f1 r, flats_inv c2 f2 rs⟩
    rw [anyF_rel g.1 r g.2 rs]
  · rw [if_neg f]
    have g : dataD 30 d = true ∧ ds.all (dataD 30) = true := by
      unfold inOk at c
      rcases Bool.or_eq_true_iff.mp c with c | c
      · obtain ⟨c1, c2⟩ := Bool.and_eq_true_iff.mp c
        exact absurd (Bool.and_eq_true_iff.mpr ⟨flat_rel c1 r, flats_rel c2 rs⟩) f
      · exact Bool.and_eq_true_iff.mp c
    rw [pd_rel 30 40 (by decide) d u g.1 r, pds_rel (CT := CT) (W := W) (h := h) (j := 40) (k := 30) (fun d u c r => pd_rel 30 40 (by decide) d u c r) ds us g.2 rs]
    simp only
    rw [if_pos (by rw [pd_shaped (by decide) g.1, pds_shaped g.2]; rfl), anyD_eq g.1 g.2]
theorem s_vinR {d e : D} {u v : U} {f : Bool → Bool} (r1 : RelV CT W h d u) (r2 : RelV CT W h e v) : Sm CT (RelV CT) W h (MP.bnd (inB u v) fun b => mret (.bl (f b))) (vinR d e fun c => vret (.bl (f c))) := by
  have key : Sm CT (RelV CT) W h (MP.bnd (inB u v) fun b => mret (.bl (f b))) (MV.withL e fun xs => vreq (inOk d xs = true) (vret (.bl (f (xs.any fun z => eqD z d))))) := by
    refine .withL r2 fun xs us j ej hj rs => .req fun c => ?_
    subst ej
    refine .of_eq (m' := mret (.bl (f (xs.any fun z => eqD z d)))) ?_ (.ret rel_bl)
    have : inB u (.ref j) h = inL u h (some us) := by
      unfold inB
      simp only [hj, lstOf_lst hj]
    unfold MP.bnd
    rw [this, inL_rel r1 rs c]
  cases e <;> first | exact Sm.bad | exact key | skip
  · unfold RelV at r2
    subst r2
    cases d <;> first | exact Sm.bad | skip
    unfold RelV at r1
    subst r1
    intro n s Q X l q
    obtain ⟨c, rfl, q⟩ := q
    exact Sm.of_eq (m' := mret (U.bl (f _))) rfl (.ret rel_bl) n s Q X l q
  · unfold RelV at r2
    obtain ⟨us, rfl, rs⟩ := r2
    refine .req fun c => ?_
    refine .of_eq (m' := mret (.bl (f (List.any _ fun z => eqD z d)))) ?_ (.ret rel_bl)
    unfold MP.bnd inB
    simp only [mret]
    rw [if_pos (by rw [flat_rel c.1 r1, flats_rel c.2 rs]; rfl), anyF_rel c.1 r1 c.2 rs]
theorem s_in : OpS CT inU vin := fun W h d e u v r1 r2 => s_vinR (f := fun b => b) r1 r2
theorem s_nin : OpS CT notInU vnin := fun W h d e u v r1 r2 => s_vinR (f := fun b => !b) r1 r2
theorem RelVs.isE {ds : List D} {us : List U} (r : RelVs CT W h ds us) : us.isEmpty = ds.isEmpty := by
  have := r.len
  cases us <;> cases ds <;> first | rfl | cases this
theorem s_tru {d : D} {u : U} (r : RelV CT W h d u) : Sm CT (fun _ _ b a => a = b) W h (truB u) (vtru d) := by
  have key : Sm CT (fun _ _ b a => a = b) W h (truB u) (MV.withS d fun xs => vret (!xs.isEmpty)) := by
    refine .withS r fun xs us e1 e2 rs => ?_
    refine .of_eq (m' := mret (!xs.isEmpty)) ?_ (.ret rfl)
    rcases e2 with rfl | ⟨j, rfl, e2 | e2⟩
    · unfold truB; simp only [mret]; rw [rs.isE]
    · unfold truB; simp only [e2, mret]; rw [rs.isE]
    · unfold truB; simp only [e2, mret]; rw [rs.isE]
  cases d <;> first | exact key | skip
  · unfold RelV at r; subst r; exact .of_eq (m' := mret false) rfl (.ret rfl)
  · unfold RelV at r; subst r; exact .of_eq (m' := mret _) rfl (.ret rfl)
  · unfold RelV at r; subst r; exact .of_eq (m' := mret _) rfl (.ret rfl)
  · unfold RelV at r; subst r
    refine .req fun c => ?_
    refine .of_eq (m' := mret (_ != 0)) ?_ (.ret rfl)
    unfold truB
    simp only
    rw [if_pos c]
    rfl
theorem atI_rel {xs : List D} {us : List U} {i : Int} {x : D} (r : RelVs CT W h xs us) (e : L2.atI xs i = some x) : ∃ u, L2.atI us i = some u ∧ RelV CT W h x u := by
  unfold L2.atI at e ⊢
  rw [r.len]
  cases e1 : L2.ixN xs.length i with
  | none => rw [e1] at e; cases e
  | some j =>
    rw [e1] at e
    exact r.get e
theorem s_getL {xs : List D} {us : List U} {i : Int} {m : M U} (r : RelVs CT W h xs us) (e : m h = ofO (L2.atI us i) h) : Sm CT (RelV CT) W h m (vgetL xs i) := .val fun n s Q X l ⟨x, e1, q⟩ => by
  obtain ⟨u, e2, r2⟩ := atI_rel r e1
  exact ⟨u, x, by rw [e, e2]; rfl, r2, q⟩
theorem s_get : OpS CT getU vget := fun W h d e u v r1 r2 => by
  cases e <;> first | (cases d <;> exact Sm.bad) | skip
  rename_i i
  unfold RelV at r2
  subst r2
  have key : Sm CT (RelV CT) W h (getU u (.int i)) (MV.withF d fun xs => vgetL xs i) := by
    refine .withF r1 fun xs us j ej hj rs => s_getL rs ?_
    subst ej
    rcases hj with hj | hj
    · unfold getU; simp only [hj]
    · unfold getU; simp only [hj]
  cases d <;> first | exact Sm.bad | exact key | skip
  · unfold RelV at r1
    subst r1
    refine .val fun n s Q X l q => ?_
    obtain ⟨q1, c, q2, q3⟩ := q
    refine ⟨_, _, ?_, rel_str, q3⟩
    unfold getU
    simp only
    rw [if_pos q1, q2]
    rfl
  · unfold RelV at r1
    obtain ⟨us, rfl, rs⟩ := r1
    exact s_getL rs rfl
theorem cut_rel {xs : List D} {us : List U} {lo hi : Option Int} (r : RelVs CT W h xs us) : RelVs CT W h (cutU xs lo hi) (cutU us lo hi) := by
  unfold cutU
  rw [r.len]
  exact (r.drop _).take _
theorem s_sl {d : D} {u : U} {lo hi : Option Int} (r : RelV CT W h d u) : Sm CT (RelV CT) W h (slU u lo hi) (vsl d lo hi) := by
  have key : Sm CT (RelV CT) W h (slU u lo hi) (MV.withF d fun xs => vret (.lst (cutU xs lo hi))) := by
    refine .withF r fun xs us j ej hj rs => ?_
    subst ej
    refine .of_eq (m' := MP.newL (cutU us lo hi)) ?_ (.newL (cut_rel rs))
    rcases hj with hj | hj
    · unfold slU; simp only [lstOf_lst hj]
    · unfold slU; simp only [lstOf_frz hj]
  cases d <;> first | exact Sm.bad | exact key | skip
  unfold RelV at r
  obtain ⟨us, rfl, rs⟩ := r
  exact .of_eq (m' := mret (.tup _)) rfl (.ret (rel_tup (cut_rel rs)))
theorem s_rev {d : D} {u : U} (r : RelV CT W h d u) : Sm CT (RelV CT) W h (revU u) (vrev d) := by
  refine .withF r fun xs us j ej hj rs => ?_
  subst ej
  refine .of_eq (m' := MP.newL us.reverse) ?_ (.newL rs.reverse)
  rcases hj with hj | hj
  · unfold revU; simp only [lstOf_lst hj]
  · unfold revU; simp only [lstOf_frz hj]
end
/-! ### fields -/
section
variable {CT : CTab} {W : Wd} {h : VH}
theorem lk_mem {α : Type} : ∀ {l : List (Nat × α)} {c : Nat} {a : α}, lk l c = some a → (c, a) ∈ l
  | [], _, _, e => by cases e
  | (b, x) :: r, c, a, e => by
    unfold lk at e
    by_cases z : b = c
    · rw [if_pos z] at e
      cases e
      rw [z]
      exact List.mem_cons_self
    · rw [if_neg z] at e
      exact List.mem_cons_of_mem _ (lk_mem e)
theorem getL_is : ∀ (vs : List D) (j : Nat), getL vs j = vs[j]?
  | [], _ => by simp [getL]
  | a :: r, 0 => rfl
  | a :: r, j + 1 => by
    rw [List.getElem?_cons_succ]
    exact getL_is r j
/-- a field's place in its class -/
def FldOk (CT : CTab) (cs : List Str) (f : Str) (tbl : List (Nat × Nat)) : Prop := ∀ p ∈ tbl, (CT p.1).1 ∈ cs ∧ (CT p.1).2[p.2]? = some f ∧ (CT p.1).2.Nodup ∧ (CT p.1).2.length < 1000
theorem lookup_at : ∀ {fs : Fs} {ks : List Str} {f : Str} {j : Nat} {v : U}, fs.map (·.1) = ks.take fs.length → fs.length ≤ ks.length → ks.Nodup → ks[j]? = some f → (fs.map (·.2))[j]? = some v → fs.lookup f = some v
  | [], _, _, _, _, _, _, _, _, e => by simp at e
  | p :: fs, [], _, _, _, _, e2, _, _, _ => by simp at e2
  | p :: fs, k :: ks, f, j, v, e1, e2, e3, e4, e5 => by
    simp only [List.map_cons, List.length_cons, List.take_succ_cons, List.cons.injEq] at e1
    obtain ⟨g, x⟩ := p
    obtain ⟨e1, e1'⟩ := e1
    subst e1
    cases j with
    | zero =>
      have h1 : g = f := by simpa using e4
      have h2 : x = v := by simpa using e5
      subst h1; subst h2
      simp
    | succ j =>
      have h1 : ks[j]? = some f := by simpa using e4
      have h2 : g ≠ f := fun z => (List.nodup_cons.mp e3).1 (z ▸ List.mem_of_getElem? h1)
      simp only [List.lookup_cons]
      have h3 : (f == g) = false := by
        rw [beq_eq_false_iff_ne]
        exact fun z => h2 z.symm
      rw [h3]
      exact lookup_at e1' (by simpa using e2) (List.nodup_cons.mp e3).2 h1 (by simpa using e5)
theorem s_fld {cs : List Str} {f : Str} {tbl : List (Nat × Nat)} {d : D} {u : U} (ok : FldOk CT cs f tbl) (r : RelV CT W h d u) : Sm CT (RelV CT) W h (fldU cs f u) (vfld tbl d) := by
  have key : ∀ (c j m : Nat) (vs : List D) (v : D) (fs : Fs), u = .ref m → h[m]? = some (.ins (CT c).1 fs) → NamesOk (CT c).2 fs → RelVs CT W h vs (fs.map (·.2)) → lk tbl c = some j → getL vs j = some v → ∃ w, fldU cs f u h = .ok w h ∧ RelV CT W h v w := fun c j m vs v fs e1 e2 e3 e4 e5 e6 => by
    subst e1
    rw [getL_is] at e6
    obtain ⟨w, g1, g2⟩ := e4.get e6
    obtain ⟨o1, o2, o3, o4⟩ := ok _ (lk_mem e5)
    refine ⟨w, ?_, g2⟩
    unfold fldU
    simp only [e2]
    rw [if_pos o1, lookup_at e3.1 e3.2 o3 o2 g1]
  cases d <;> first | exact Sm.bad | skip
  · rename_i c vs
    unfold RelV at r
    obtain ⟨m, fs, e1, e2, _, e3, e4⟩ := r
    unfold vfld
    refine .val fun n s Q X l q => ?_
    simp only [vbnd, ofOp] at q
    cases e5 : lk tbl c with
    | none => rw [e5] at q; exact q.elim
    | some j =>
      rw [e5] at q
      simp only [vret] at q
      cases e6 : getL vs j with
      | none => rw [e6] at q; exact q.elim
      | some v =>
        rw [e6] at q
        obtain ⟨w, g1, g2⟩ := key c j m vs v fs e1 e2 e3 e4 e5 e6
        exact ⟨w, v, g1, g2, q⟩
  · refine .val fun n s Q X l q => ?_
    obtain ⟨c, vs, j, v, q1, q2, q3, q4⟩ := q
    obtain ⟨m, vo, e1, e2, e3, e4, _⟩ := l.ref r q1 (fun z => nomatch z)
    obtain ⟨fs, rfl, e5, e6⟩ := e4
    obtain ⟨w, g1, g2⟩ := key c j m vs v fs e2 e3 e5 e6 q2 q3
    exact ⟨w, v, g1, g2, q4⟩
theorem putF_rel : ∀ {fs : Fs} {ks : List Str} {f : Str} {j : Nat} {v : U} {d : D} {ds : List D}, NamesOk ks fs → ks.Nodup → ks[j]? = some f → j ≤ ds.length → RelVs CT W h ds (fs.map (·.2)) → RelV CT W h d v → NamesOk ks (putF f v fs) ∧ RelVs CT W h (putL j d ds) ((putF f v fs).map (·.2))
  | [], ks, f, j, v, d, ds, e1, e2, e3, e4, e5, e6 => by
    have : ds = [] := by
      have := e5.len
      cases ds with
      | nil => rfl
      | cons => cases this
    subst this
    cases j with
    | succ j => simp at e4
    | zero =>
      cases ks with
      | nil => simp at e3
      | cons k ks =>
        have : k = f := by simpa using e3
        subst this
        exact ⟨⟨rfl, by show 1 ≤ _; simp⟩, .one e6⟩
  | p :: fs, [], _, _, _, _, _, e1, _, _, _, _, _ => by
    have := e1.2
    simp at this
  | p :: fs, k :: ks, f, j, v, d, ds, e1, e2, e3, e4, e5, e6 => by
    obtain ⟨g, x⟩ := p
    obtain ⟨a1, a2⟩ := e1
    simp only [List.map_cons, List.length_cons, List.take_succ_cons, List.cons.injEq] at a1
    obtain ⟨a1, a3⟩ := a1
    subst a1
    cases ds with
    | nil =>
      have := e5.len
      simp at this
    | cons e ds =>
      obtain ⟨u, r, z, e7, e8⟩ := e5.uncons
      simp only [List.map_cons, List.cons.injEq] at z
      obtain ⟨z1, z2⟩ := z
      subst z1; subst z2
      cases j with
      | zero =>
        have : g = f := by simpa using e3
        subst this
        unfold putF putL
        rw [if_pos rfl]
        exact ⟨⟨by simp [a3], a2⟩, .cons e6 e8⟩
      | succ j =>
        have h1 : ks[j]? = some f := by simpa using e3
        have h2 : g ≠ f := fun z => (List.nodup_cons.mp e2).1 (z ▸ List.mem_of_getElem? h1)
        unfold putF putL
        rw [if_neg h2]
        obtain ⟨⟨b1, b2⟩, b3⟩ := putF_rel (v := v) (d := d) ⟨a3, by simpa using a2⟩ (List.nodup_cons.mp e2).2 h1 (by simpa using e4) e8 e6
        exact ⟨⟨by simp [b1], by simpa using b2⟩, .cons e7 b3⟩
theorem s_setF {cs : List Str} {f : Str} {tbl : List (Nat × Nat)} {d e : D} {u v : U} (ok : FldOk CT cs f tbl) (r : RelV CT W h d u) (r2 : RelV CT W h e v) : Sm CT (fun _ _ _ _ => True) W h (setFldU cs f u v) (vsetF tbl d e) := by
  cases d <;> first | exact Sm.bad | skip
  intro n s Q X l q
  obtain ⟨c, vs, j, q1, q2, q3, q4⟩ := q
  obtain ⟨m, vo, e1, e2, e3, e4, _⟩ := l.ref r q1 (fun z => nomatch z)
  obtain ⟨fs, rfl, e5, e6⟩ := e4
  obtain ⟨o1, o2, o3, o4⟩ := ok _ (lk_mem q2)
  obtain ⟨g1, g2⟩ := putF_rel e5 o3 o2 q3 e6 r2
  subst e2
  refine .inl ⟨(), _, W, (), n, _, ?_, .write l e1 q1, l.write q1 e1 (o := .ins c (putL j e vs)) ⟨_, rfl, g1, g2⟩ (fun z => nomatch z), trivial, q4⟩
  unfold setFldU
  simp only [e3]
  rw [if_pos ⟨o1, Nat.lt_of_le_of_lt e5.2 o4⟩]
theorem s_set {d e e2 : D} {u v w : U} (r : RelV CT W h d u) (r2 : RelV CT W h e v) (r3 : RelV CT W h e2 w) : Sm CT (fun _ _ _ _ => True) W h (setU u v w) (vset d e e2) := by
  cases d <;> first | exact Sm.bad | skip
  cases e <;> first | exact Sm.bad | skip
  unfold RelV at r2
  subst r2
  intro n s Q X l q
  obtain ⟨xs, j, q1, q2, q3⟩ := q
  obtain ⟨m, us, e1, rfl, e3, e4⟩ := l.lst r q1
  refine .inl ⟨(), _, W, (), n, _, ?_, .write l e1 q1, l.write q1 e1 (o := .lst (xs.set j e2)) ⟨_, rfl, e4.set j r3⟩ (fun z => nomatch z), trivial, q3⟩
  unfold setU
  simp only [e3]
  rw [e4.len, q2]
end
end MV
/-! VD: built-in functions, methods. -/
namespace MV
open PySem MP
section
variable {CT : CTab} {W : Wd} {h : VH}
/-- a function of arguments -/
def FnS (CT : CTab) (f : List U → M U) (g : FV) : Prop := ∀ W h ds us, RelVs CT W h ds us → Sm CT (RelV CT) W h (f us) (g ds)
theorem RelVs.one_inv {d : D} {us : List U} (r : RelVs CT W h [d] us) : ∃ u, us = [u] ∧ RelV CT W h d u := by
  obtain ⟨u, q, rfl, r1, r2⟩ := r.uncons
  unfold RelVs at r2
  subst r2
  exact ⟨u, rfl, r1⟩
theorem RelVs.two_inv {d e : D} {us : List U} (r : RelVs CT W h [d, e] us) : ∃ u v, us = [u, v] ∧ RelV CT W h d u ∧ RelV CT W h e v := by
  obtain ⟨u, q, rfl, r1, r2⟩ := r.uncons
  obtain ⟨v, rfl, r3⟩ := r2.one_inv
  exact ⟨u, v, rfl, r1, r3⟩
theorem s_v1 {f : List U → M U} {g : D → VM D} (k : ∀ W h d u, RelV CT W h d u → Sm CT (RelV CT) W h (f [u]) (g d)) : FnS CT f (v1 g) := fun W h ds us r => by
  match ds, r with
  | [], _ => exact Sm.bad
  | _ :: _ :: _, _ => exact Sm.bad
  | [d], r =>
    obtain ⟨u, rfl, r1⟩ := r.one_inv
    exact k W h d u r1
theorem s_len : FnS CT lenU vlen := s_v1 fun W h d u r => by
  have key : Sm CT (RelV CT) W h (lenU [u]) (MV.withS d fun xs => vret (.int xs.length)) := by
    refine .withS r fun xs us e1 e2 rs => ?_
    refine .of_eq (m' := mret (.int xs.length)) ?_ (.ret rel_int)
    rcases e2 with rfl | ⟨j, rfl, e2 | e2⟩
    · unfold lenU; simp only [mret]; rw [rs.len]
    · unfold lenU; simp only [e2, lstOf_lst e2, mret]; rw [rs.len]
    · unfold lenU; simp only [e2, lstOf_frz e2, mret]; rw [rs.len]
  cases d <;> first | exact key | skip
  unfold RelV at r
  subst r
  refine .req fun c => ?_
  refine .of_eq (m' := mret (.int (Nat.cast _))) ?_ (.ret rel_int)
  unfold lenU
  simp only
  rw [if_pos c]
  rfl
theorem s_int : FnS CT intF vint := s_v1 fun W h d u r => by
  cases d <;> first | exact Sm.bad | skip
  · unfold RelV at r; subst r; exact .ret rel_int
  · unfold RelV at r; subst r; exact .ret rel_int
theorem s_tup : FnS CT tupF vtup := s_v1 fun W h d u r => by
  refine .withS r fun xs us e1 e2 rs => ?_
  refine .of_eq (m' := mret (.tup us)) ?_ (.ret (rel_tup rs))
  unfold tupF
  simp only [e1]
  rfl
theorem s_list : FnS CT listF vlist := s_v1 fun W h d u r => by
  refine .withS r fun xs us e1 e2 rs => ?_
  refine .of_eq (m' := MP.newL us) ?_ (.newL rs)
  unfold listF
  simp only [e1]
theorem s_listM : FnS CT listF vlistM := s_v1 fun W h d u r => by
  refine .withS r fun xs us e1 e2 rs => ?_
  refine .of_eq (m' := MP.newL us) ?_ (.newM rs)
  unfold listF
  simp only [e1]
theorem ints_rel {ns : List Int} {us : List U} (r : RelVs CT W h (ns.map .int) us) : us = ns.map .int := r.of_map fun a u e => by unfold RelV at e; exact e
theorem bls_rel {ns : List Bool} {us : List U} (r : RelVs CT W h (ns.map .bl) us) : us = ns.map .bl := r.of_map fun a u e => by unfold RelV at e; exact e
theorem strs_rel {ns : List Str} {us : List U} (r : RelVs CT W h (ns.map .str) us) : us = ns.map .str := r.of_map fun a u e => by unfold RelV at e; exact e
theorem rels_int (ns : List Int) : RelVs CT W h (ns.map .int) (ns.map .int) := .map (fun _ => rel_int) ns
theorem intsOf_is {j : Nat} {ns : List Int} (e : h[j]? = some (.lst (ns.map .int))) : intsOf h (.ref j) = some ns := by
  unfold intsOf
  rw [lstOf_lst e, Option.bind_some]
  exact mapO_map (f := U.int) (g := toI) (fun _ => rfl) ns
theorem blsOf_is {j : Nat} {ns : List Bool} (e : h[j]? = some (.lst (ns.map .bl))) : blsOf h (.ref j) = some ns := by
  unfold blsOf
  rw [lstOf_lst e, Option.bind_some]
  exact mapO_map (f := U.bl) (g := toBl) (fun _ => rfl) ns
theorem s_ints {m : M U} {d : D} {u : U} {K : List Int → VM D} (r : RelV CT W h d u) (f : ∀ ns, intsOf h u = some ns → Sm CT (RelV CT) W h m (K ns)) : Sm CT (RelV CT) W h m (vints d K) := by
  refine .withL r fun xs us j ej hj rs => fun n s Q X l q => ?_
  obtain ⟨ns, rfl, q⟩ := q
  have e := ints_rel rs
  subst ej; subst e
  exact f ns (intsOf_is hj) n s Q X l q
theorem s_bls {m : M U} {d : D} {u : U} {K : List Bool → VM D} (r : RelV CT W h d u) (f : ∀ ns, blsOf h u = some ns → Sm CT (RelV CT) W h m (K ns)) : Sm CT (RelV CT) W h m (vbls d K) := by
  refine .withL r fun xs us j ej hj rs => fun n s Q X l q => ?_
  obtain ⟨ns, rfl, q⟩ := q
  have e := bls_rel rs
  subst ej; subst e
  exact f ns (blsOf_is hj) n s Q X l q
theorem s_sorted : FnS CT sortedF vsorted := s_v1 fun W h d u r => s_ints r fun ns e => by
  refine .of_eq (m' := MP.newL ((sortI ns).map .int)) ?_ (.newL (rels_int _))
  unfold sortedF
  simp only [e]
theorem s_sum : FnS CT sumF vsum := s_v1 fun W h d u r => s_ints r fun ns e => by
  refine .of_eq (m' := mret (.int ns.sum)) ?_ (.ret rel_int)
  unfold sumF
  simp only [e]
  rfl
theorem s_max : FnS CT maxF vmax := fun W h ds us r => by
  have one : ∀ d, ds = [d] → Sm CT (RelV CT) W h (maxF us) (vints d fun ns => vreq (0 < ns.length) (vret (.int (maxI ns)))) := fun d ed => by
    subst ed
    obtain ⟨u, rfl, r1⟩ := r.one_inv
    refine s_ints r1 fun ns e => .req fun c => ?_
    refine .of_eq (m' := mret (.int (maxI ns))) ?_ (.ret rel_int)
    unfold maxF
    simp only [e]
    rw [if_pos c]
    rfl
  match ds, r with
  | [], _ => exact Sm.bad
  | d :: e :: _ :: _, _ => cases d <;> first | exact Sm.bad | (cases e <;> exact Sm.bad)
  | [d], r => cases d <;> exact one _ rfl
  | [d, e], r =>
    obtain ⟨u, v, rfl, r1, r2⟩ := r.two_inv
    cases d <;> first | exact Sm.bad | skip
    cases e <;> first | exact Sm.bad | skip
    unfold RelV at r1 r2
    subst r1; subst r2
    exact .of_eq (m' := mret (.int _)) rfl (.ret rel_int)
theorem s_min : FnS CT minF vmin := fun W h ds us r => by
  match ds, r with
  | [], _ => exact Sm.bad
  | [d], _ => cases d <;> exact Sm.bad
  | d :: e :: _ :: _, _ => cases d <;> first | exact Sm.bad | (cases e <;> exact Sm.bad)
  | [d, e], r =>
    obtain ⟨u, v, rfl, r1, r2⟩ := r.two_inv
    cases d <;> first | exact Sm.bad | skip
    cases e <;> first | exact Sm.bad | skip
    unfold RelV at r1 r2
    subst r1; subst r2
    exact .of_eq (m' := mret (.int _)) rfl (.ret rel_int)
theorem s_abs : FnS CT absF vabs := s_v1 fun W h d u r => by
  cases d <;> first | exact Sm.bad | skip
  unfold RelV at r; subst r; exact .ret rel_int
theorem s_all : FnS CT allF vall := s_v1 fun W h d u r => s_bls r fun ns e => by
  refine .of_eq (m' := mret (.bl (ns.all id))) ?_ (.ret rel_bl)
  unfold allF
  simp only [e]
  rfl
theorem s_any : FnS CT anyF vany := s_v1 fun W h d u r => s_bls r fun ns e => by
  refine .of_eq (m' := mret (.bl (ns.any id))) ?_ (.ret rel_bl)
  unfold anyF
  simp only [e]
  rfl
/-! isinstance -/
def KdOk (CT : CTab) (kc cs : List Str) (k : Kd) : Prop :=
  (cs.any fun c => decide (c = "bool") || decide (c = "int")) = (k.b || k.i) ∧ (cs.any fun c => decide (c = "int")) = k.i ∧ (cs.any fun c => decide (c = "str")) = k.s ∧
  (cs.any fun c => decide (c = "tuple")) = k.t ∧ (cs.any fun c => decide (c = "list")) = k.l ∧ ∀ p ∈ k.cs, (CT p.1).1 ∈ kc ∧ (cs.any fun c => decide (c = (CT p.1).1)) = p.2
theorem isCs_any {kc : List Str} {u : U} {p : Str → Bool} (e : ∀ c, isC kc c u h = some (p c)) : ∀ cs, isCs kc cs u h = some (cs.any p)
  | [] => rfl
  | c :: cs => by
    unfold isCs
    rw [e c, List.any_cons]
    cases p c with
    | true => rfl
    | false => exact isCs_any e cs
theorem s_isk {kc cs : List Str} {k : Kd} {d : D} {u : U} (ok : KdOk CT kc cs k) (r : RelV CT W h d u) : Sm CT (RelV CT) W h (isF kc cs u) (visk k d) := by
  obtain ⟨o1, o2, o3, o4, o5, o6⟩ := ok
  have key : ∀ (p : Str → Bool) (b : Bool), (∀ c, isC kc c u h = some (p c)) → cs.any p = b → isF kc cs u h = mret (.bl b) h := fun p b e1 e2 => by
    unfold isF
    rw [isCs_any e1 cs, e2]
    rfl
  cases d <;> first | exact Sm.bad | skip
  · unfold RelV at r; subst r
    refine .of_eq (key (fun _ => false) false (fun c => rfl) ?_) (.ret rel_bl)
    induction cs with
    | nil => rfl
    | cons => simp
  · unfold RelV at r; subst r
    exact .of_eq (key _ _ (fun c => rfl) o1) (.ret rel_bl)
  · unfold RelV at r; subst r
    exact .of_eq (key _ _ (fun c => rfl) o2) (.ret rel_bl)
  · unfold RelV at r; subst r
    exact .of_eq (key _ _ (fun c => rfl) o3) (.ret rel_bl)
  · unfold RelV at r; obtain ⟨us, rfl, _⟩ := r
    exact .of_eq (key _ _ (fun c => rfl) o4) (.ret rel_bl)
  · unfold RelV at r; obtain ⟨m, us, rfl, e1, _⟩ := r
    exact .of_eq (key _ _ (fun c => by unfold isC; simp only [e1]) o5) (.ret rel_bl)
  · unfold RelV at r; obtain ⟨m, us, rfl, e1, _⟩ := r
    exact .of_eq (key _ _ (fun c => by unfold isC; simp only [e1]) o5) (.ret rel_bl)
  · rename_i c vs
    unfold RelV at r
    obtain ⟨m, fs, rfl, e1, _⟩ := r
    unfold visk
    simp only [ofOp]
    cases e2 : lk k.cs c with
    | none => exact Sm.bad
    | some b =>
      obtain ⟨p1, p2⟩ := o6 _ (lk_mem e2)
      exact .of_eq (key _ _ (fun c => by unfold isC; simp only [e1]; rw [if_pos p1]) p2) (.ret rel_bl)
  · intro n s Q X l q
    obtain ⟨⟨xs, q1⟩, q⟩ := q
    obtain ⟨m, us, e1, rfl, e2, _⟩ := l.lst r q1
    exact Sm.of_eq (key _ _ (fun c => by unfold isC; simp only [e2]) o5) (.ret rel_bl) n s Q X l q
/-! methods -/
def MtS (CT : CTab) (f : U → List U → M U) (g : D → FV) : Prop := ∀ W h d u, RelV CT W h d u → FnS CT (f u) (g d) → True
theorem s_app {W : Wd} {h : VH} {d : D} {u : U} (r : RelV CT W h d u) {ds : List D} {us : List U} (rs : RelVs CT W h ds us) : Sm CT (RelV CT) W h (lstM "append" u us) (vapp d ds) := by
  cases d <;> first | exact Sm.bad | skip
  match ds, rs with
  | [], _ => exact Sm.bad
  | _ :: _ :: _, _ => exact Sm.bad
  | [e], rs =>
    obtain ⟨v, rfl, r1⟩ := rs.one_inv
    intro n s Q X l q
    obtain ⟨xs, q1, q2, q3⟩ := q
    obtain ⟨m, ws, e1, rfl, e3, e4⟩ := l.lst r q1
    refine .inl ⟨.non, _, W, .non, n, _, ?_, .write l e1 q1, l.write q1 e1 (o := .lst (xs ++ [e])) ⟨_, rfl, e4.append (.one r1)⟩ (fun z => nomatch z), rel_non, q3⟩
    unfold lstM mLst
    simp only [e3, if_true]
    rw [if_pos (by rw [e4.len]; exact q2)]
theorem s_ext {W : Wd} {h : VH} {d : D} {u : U} (r : RelV CT W h d u) {ds : List D} {us : List U} (rs : RelVs CT W h ds us) : Sm CT (RelV CT) W h (lstM "extend" u us) (vext d ds) := by
  cases d <;> first | exact Sm.bad | skip
  rename_i k
  match ds, rs with
  | [], _ => exact Sm.bad
  | _ :: _ :: _, _ => exact Sm.bad
  | [e], rs =>
    obtain ⟨v, rfl, r1⟩ := rs.one_inv
    intro n s Q X l q
    obtain ⟨xs, q1, q3⟩ := q
    obtain ⟨m, ws, e1, rfl, e3, e4⟩ := l.lst r q1
    have key : ∀ (ys : List D) (vs : List U) (j : Nat), v = .ref j → h[j]? = some (.lst vs) → RelVs CT W h ys vs → xs.length + ys.length ≤ sizeLine → Q .non n (s.set k (.lst (xs ++ ys))) → ∃ a h' W' b n' s', lstM "extend" (.ref m) [v] h = .ok a h' ∧ Ex W h W' h' ∧ Rl CT W' n' s' h' ∧ RelV CT W' h' b a ∧ Q b n' s' := fun ys vs j ej hj rs2 c q => by
      subst ej
      refine ⟨.non, _, W, .non, n, _, ?_, .write l e1 q1, l.write q1 e1 (o := .lst (xs ++ ys)) ⟨_, rfl, e4.append rs2⟩ (fun z => nomatch z), rel_non, q⟩
      unfold lstM mLst
      simp only [e3, hj]
      rw [if_neg (by decide +kernel), if_pos trivial, if_pos (by rw [e4.len, rs2.len]; exact c)]
    cases e <;> first | exact q3.elim | skip
    · unfold RelV at r1
      obtain ⟨j, vs, f1, f2, _, f3⟩ := r1
      exact .inl (key _ vs j f1 f2 f3 q3.1 q3.2)
    · obtain ⟨ys, g1, g2⟩ := q3
      obtain ⟨j, vs, _, f1, f2, f3⟩ := l.lst r1 g1
      exact .inl (key _ vs j f1 f2 f3 g2.1 g2.2)
theorem s_pop {W : Wd} {h : VH} {d : D} {u : U} (r : RelV CT W h d u) {ds : List D} {us : List U} (rs : RelVs CT W h ds us) : Sm CT (RelV CT) W h (lstM "pop" u us) (vpop d ds) := by
  cases d <;> first | exact Sm.bad | skip
  match ds, rs with
  | _ :: _, _ => exact Sm.bad
  | [], rs =>
    unfold RelVs at rs
    subst rs
    intro n s Q X l q
    obtain ⟨xs, y, q1, q2, q3⟩ := q
    obtain ⟨m, ws, e1, rfl, e3, e4⟩ := l.lst r q1
    obtain ⟨w, f1, f2⟩ := e4.get q2
    refine .inl ⟨w, _, W, y, n, _, ?_, .write l e1 q1, l.write q1 e1 (o := .lst xs.dropLast) ⟨_, rfl, e4.dropLast⟩ (fun z => nomatch z), f2.ex (.write l e1 q1), q3⟩
    unfold lstM mLst
    simp only [e3]
    rw [if_neg (by decide +kernel), if_neg (by decide +kernel), if_pos trivial, e4.len, f1]
theorem idx_rel {d : D} {u : U} (c : flatD d = true) (r : RelV CT W h d u) : ∀ {ds : List D} {us : List U}, ds.all flatD = true → RelVs CT W h ds us → idxF u us = idxD d ds
  | [], us, _, rs => by unfold RelVs at rs; subst rs; rfl
  | e :: ds, us, c2, rs => by
    obtain ⟨v, vs, rfl, r1, r2⟩ := rs.uncons
    rw [List.all_cons, Bool.and_eq_true] at c2
    unfold idxF idxD
    rw [eqF_rel c2.1 c r1 r, idx_rel c r c2.2 r2]
theorem s_idx {W : Wd} {h : VH} {d : D} {u : U} (r : RelV CT W h d u) (hd : ∀ xs, d ≠ .tup xs) {ds : List D} {us : List U} (rs : RelVs CT W h ds us) : Sm CT (RelV CT) W h (lstM "index" u us) (vidx d ds) := by
  match ds, rs with
  | [], _ => exact Sm.bad
  | _ :: _ :: _, _ => exact Sm.bad
  | [e], rs =>
    obtain ⟨v, rfl, r1⟩ := rs.one_inv
    have key : Sm CT (RelV CT) W h (lstM "index" u [v]) (MV.withL d fun xs => vidxL xs e) := by
      refine .withL r fun xs ws j ej hj rs2 => .val fun n s Q X l q => ?_
      obtain ⟨⟨c1, c2⟩, i, q1, q2⟩ := q
      refine ⟨.int i, .int i, ?_, rel_int, q2⟩
      subst ej
      unfold lstM mLst
      simp only [hj]
      rw [if_neg (by decide +kernel), if_neg (by decide +kernel), if_neg (by decide +kernel), if_pos trivial, if_pos (by rw [flat_rel c1 r1, flats_rel c2 rs2]; rfl), idx_rel c1 r1 c2 rs2, q1]
    cases d <;> first | exact key | exact absurd rfl (hd _)
theorem s_tidx {W : Wd} {h : VH} {xs : List D} {u : U} (r : RelV CT W h (.tup xs) u) {ds : List D} {us : List U} (rs : RelVs CT W h ds us) : Sm CT (RelV CT) W h (tupM "index" u us) (vidx (.tup xs) ds) := by
  match ds, rs with
  | [], _ => exact Sm.bad
  | _ :: _ :: _, _ => exact Sm.bad
  | [e], rs =>
    obtain ⟨v, rfl, r1⟩ := rs.one_inv
    unfold RelV at r
    obtain ⟨ws, rfl, rs2⟩ := r
    refine .val fun n s Q X l q => ?_
    obtain ⟨⟨c1, c2⟩, i, q1, q2⟩ := q
    refine ⟨.int i, .int i, ?_, rel_int, q2⟩
    unfold tupM mTup
    simp only [if_true]
    rw [if_pos (by rw [flat_rel c1 r1, flats_rel c2 rs2]; rfl), idx_rel c1 r1 c2 rs2, q1]
theorem s_join {W : Wd} {h : VH} {d : D} {u : U} (r : RelV CT W h d u) {ds : List D} {us : List U} (rs : RelVs CT W h ds us) : Sm CT (RelV CT) W h (strM "join" u us) (vjoin d ds) := by
  cases d <;> first | exact Sm.bad | skip
  match ds, rs with
  | [], _ => exact Sm.bad
  | _ :: _ :: _, _ => exact Sm.bad
  | [e], rs =>
    obtain ⟨v, rfl, r1⟩ := rs.one_inv
    unfold RelV at r
    subst r
    refine .withS r1 fun xs ws e1 _ rs2 => .val fun n s Q X l q => ?_
    obtain ⟨ss, rfl, q1, q2⟩ := q
    have e2 := strs_rel rs2
    subst e2
    refine ⟨.str _, .str _, ?_, rel_str, q2⟩
    unfold strM mStr
    simp only [if_true]
    rw [e1, Option.bind_some, mapO_map (f := U.str) (g := toS) (fun _ => rfl) ss]
    simp only
    rw [if_pos q1]
/-! the pen -/
theorem s_draw : FnS CT (fnM 6 2 b_draw) vdraw := fun W h ds us r => by
  match ds, r with
  | [], _ => exact Sm.bad
  | [_], _ => cases ‹D› <;> exact Sm.bad
  | d :: e :: _ :: _, _ => cases d <;> first | exact Sm.bad | (cases e <;> exact Sm.bad)
  | [d, e], r =>
    obtain ⟨u, v, rfl, r1, r2⟩ := r.two_inv
    cases d <;> first | exact Sm.bad | skip
    cases e <;> first | exact Sm.bad | skip
    rename_i m
    unfold RelV at r1 r2
    obtain ⟨⟨p, c⟩, hq, rfl⟩ := r1
    subst r2
    intro n s Q X l q
    obtain ⟨⟨q1, q2, q3⟩, q⟩ := q
    have P : Pen p c n h := by
      obtain ⟨sp, ce, a1, a2, a3, a4, a5⟩ := l.pen _ hq
      exact ⟨sp, ce, a1, a2, a3, a4, a5⟩
    obtain ⟨a, h', e1, z, rfl, z0, z1, P', K, L⟩ := wp_ok (draw_ok P q3 q1 q2)
    have np : ∀ m : Nat, ¬ W.pn m → m ≠ p ∧ m ≠ c := fun m hm => ⟨fun z => hm ⟨_, hq, .inl z⟩, fun z => hm ⟨_, hq, .inr z⟩⟩
    have x : Ex W h W h' := ⟨⟨fun m o e f => ⟨K.2 m o (np m f.2).1 (np m f.2).2 e, f⟩, fun _ _ e => .inl e, fun _ e => e, fun _ e => e⟩, fun k hk => ⟨hk, fun m o e1 e2 => ⟨e1, by
      obtain ⟨_, _, _, _, _, b4⟩ := l.obj k m e1
      exact K.2 m o (np m b4).1 (np m b4).2 e2⟩⟩⟩
    refine .inl ⟨_, h', W, .int z, n + 1, s, e1, x, ⟨l.len, l.inj, fun k m e => ?_, l.ded, fun q hq2 => ?_, l.lk, l.pdj⟩, rel_int, q z z0 z1⟩
    · obtain ⟨o, vo, b1, b2, b3, b4⟩ := l.obj k m e
      exact ⟨o, vo, b1, K.2 m vo (np m b4).1 (np m b4).2 b2, b3.ex x, b4⟩
    · by_cases hqq : q = (p, c)
      · subst hqq
        obtain ⟨sp, ce, a1, a2, a3, a4, a5⟩ := P'
        exact ⟨sp, ce, a1, a2, a3, a4, a5⟩
      · obtain ⟨sp, ce, a1, a2, a3, a4, a5⟩ := l.pen q hq2
        obtain ⟨d1, d2, d3, d4⟩ := l.pdj q hq2 _ hq hqq
        exact ⟨sp, ce, K.2 _ _ d1 d2 a1, K.2 _ _ d3 d4 a2, a3, by omega, a5⟩
end
end MV
/-! VE: expressions, statements, defs. -/
namespace MV
open PySem MP
def RelE (CT : CTab) (W : Wd) (h : VH) : VE → MP.Env → Prop
  | [], e => e = []
  | o :: r, e => ∃ ou q, e = ou :: q ∧ (∀ d, o = some d → ∃ u, ou = some u ∧ RelV CT W h d u) ∧ RelE CT W h r q
section
variable {CT : CTab} {W W' : Wd} {h h' : VH}
theorem RelE.ex (x : Ex W h W' h') : ∀ {η : VE} {e : MP.Env}, RelE CT W h η e → RelE CT W' h' η e
  | [], _, r => r
  | o :: η, e, r => by
    obtain ⟨ou, q, e1, e2, e3⟩ := r
    exact ⟨ou, q, e1, fun d hd => by
      obtain ⟨u, f1, f2⟩ := e2 d hd
      exact ⟨u, f1, RelV.ex x d u f2⟩, RelE.ex x e3⟩
theorem RelE.get : ∀ {η : VE} {e : MP.Env} {i : Nat} {d : D}, RelE CT W h η e → getE η i = some d → ∃ u, e[i]? = some (some u) ∧ RelV CT W h d u
  | [], _, _, _, _, q => by unfold getE at q; cases q
  | o :: η, e, 0, d, r, q => by
    obtain ⟨ou, q', rfl, e2, e3⟩ := r
    obtain ⟨u, f1, f2⟩ := e2 d q
    subst f1
    exact ⟨u, rfl, f2⟩
  | o :: η, e, i + 1, d, r, q => by
    obtain ⟨ou, q', rfl, e2, e3⟩ := r
    obtain ⟨u, f1, f2⟩ := e3.get (i := i) q
    exact ⟨u, by simpa using f1, f2⟩
theorem RelE.set : ∀ {η : VE} {e : MP.Env} (i : Nat) {d : D} {u : U}, RelE CT W h η e → RelV CT W h d u → RelE CT W h (setE η i d) (e.set i (some u))
  | [], e, i, d, u, r, q => by
    have : e = [] := r
    subst this
    exact rfl
  | o :: η, e, 0, d, u, r, q => by
    obtain ⟨ou, q', rfl, e2, e3⟩ := r
    exact ⟨some u, q', rfl, fun d' hd => ⟨u, rfl, by cases hd; exact q⟩, e3⟩
  | o :: η, e, i + 1, d, u, r, q => by
    obtain ⟨ou, q', rfl, e2, e3⟩ := r
    exact ⟨ou, q'.set i (some u), rfl, e2, e3.set i q⟩
theorem RelE.sets : ∀ (is : List Nat) {η : VE} {e : MP.Env} {ds : List D} {us : List U}, RelE CT W h η e → RelVs CT W h ds us → RelE CT W h (setEs is ds η) (setAll is us e)
  | [], η, e, ds, us, r, q => by cases ds <;> cases us <;> exact r
  | i :: is, η, e, [], us, r, q => by unfold RelVs at q; subst q; exact r
  | i :: is, η, e, d :: ds, us, r, q => by
    obtain ⟨u, z, rfl, q1, q2⟩ := q.uncons
    exact RelE.sets is (r.set i q1) q2
theorem RelE.args : ∀ {ds : List D} {us : List U} (k : Nat), RelVs CT W h ds us → RelE CT W h (ds.map some ++ List.replicate k none) (us.map some ++ List.replicate k none)
  | [], us, k, r => by
    unfold RelVs at r
    subst r
    induction k with
    | zero => exact rfl
    | succ k ih => exact ⟨none, _, rfl, (fun _ z => nomatch z), ih⟩
  | d :: ds, us, k, r => by
    obtain ⟨u, z, rfl, q1, q2⟩ := r.uncons
    exact ⟨some u, _, rfl, fun d' z => ⟨u, rfl, by cases z; exact q1⟩, RelE.args k q2⟩
theorem RelE.ex0 (x : Ex0 W h W' h') : ∀ {η : VE} {e : MP.Env}, RelE CT W h η e → RelE CT W' h' η e
  | [], _, r => r
  | o :: η, e, r => by
    obtain ⟨ou, q, e1, e2, e3⟩ := r
    exact ⟨ou, q, e1, fun d hd => by
      obtain ⟨u, f1, f2⟩ := e2 d hd
      exact ⟨u, f1, RelV.ex0 x d u f2⟩, RelE.ex0 x e3⟩
def RelG (CT : CTab) (W : Wd) (h : VH) (g : Gl) (f : Fl) : Prop := match g with
  | .next η => ∃ e, f = .next e ∧ RelE CT W h η e
  | .ret d => ∃ u, f = .ret u ∧ RelV CT W h d u
  | .brk η => ∃ e, f = .brk e ∧ RelE CT W h η e
  | .cont η => ∃ e, f = .cont e ∧ RelE CT W h η e
theorem RelG.unlock {k : Nat} {g : Gl} {f : Fl} (r : RelG CT W h g f) : RelG CT (W.unlock k) h g f := by
  cases g with
  | next η =>
    obtain ⟨e, e1, e2⟩ := r
    exact ⟨e, e1, e2.ex0 .unlock⟩
  | ret d =>
    obtain ⟨e, e1, e2⟩ := r
    exact ⟨e, e1, RelV.ex0 .unlock _ _ e2⟩
  | brk η =>
    obtain ⟨e, e1, e2⟩ := r
    exact ⟨e, e1, e2.ex0 .unlock⟩
  | cont η =>
    obtain ⟨e, e1, e2⟩ := r
    exact ⟨e, e1, e2.ex0 .unlock⟩
def EvS (CT : CTab) (m : EM) (v : EV) : Prop := ∀ W h η e, RelE CT W h η e → Sm CT (RelV CT) W h (m e) (v η)
def TvS (CT : CTab) (m : TM) (v : TV) : Prop := ∀ W h η e, RelE CT W h η e → Sm CT (fun _ _ b a => a = b) W h (m e) (v η)
def LvS (CT : CTab) (m : AM) (v : AV) : Prop := ∀ W h η e, RelE CT W h η e → Sm CT (RelVs CT) W h (m e) (v η)
def StS (CT : CTab) (m : SM) (v : SV) : Prop := ∀ W h η e, RelE CT W h η e → Sm CT (RelG CT) W h (m e) (v η)
def GvS (CT : CTab) (m : GM) (v : GV) : Prop := ∀ W h d u η e, RelV CT W h d u → RelE CT W h η e → Sm CT (RelE CT) W h (m u e) (v d η)
def RelI (CT : CTab) (W : Wd) (h : VH) (V : VI) (I : Itr) : Prop := RelVs CT W h V.us I.us ∧ match V.w with
  | none => ∀ p ∈ I.w, h[p.1]? = some p.2 ∧ W.fr p.1
  | some q => ∃ m us, W.ι[q.1]? = some (some m) ∧ h[m]? = some (.lst us) ∧ I.w = [(m, .lst us)]
/-- what is walked stays -/
def WkOk (W : Wd) (h : VH) (w : List (Nat × VO)) : Prop := ∀ p ∈ w, h[p.1]? = some p.2 ∧ (W.fr p.1 ∨ ∃ k ∈ W.lk, W.ι[k]? = some (some p.1))
def ItS (CT : CTab) (m : MP.Env → M Itr) (v : VE → VM VI) : Prop := ∀ W h η e, RelE CT W h η e → Sm CT (RelI CT) W h (m e) (v η)
/-! expressions -/
section
variable {m a b c : EM} {v va vb vc : EV} {t : TM} {vt : TV}
theorem e_V {i : Nat} : EvS CT (xV i) (yV i) := fun W h η e r => by
  unfold yV
  cases e1 : getE η i with
  | none => exact Sm.bad
  | some d =>
    obtain ⟨u, f1, f2⟩ := r.get e1
    refine .of_eq (m' := mret u) ?_ (.ret f2)
    unfold xV
    rw [f1]
    rfl
theorem e_C {d : D} {u : U} (r : ∀ W h, RelV CT W h d u) : EvS CT (xC u) (yC d) := fun W h η e _ => .ret (r W h)
theorem e_Op {f : O2} {g : V2} (o : OpS CT f g) (ha : EvS CT a va) (hb : EvS CT b vb) : EvS CT (xOp f a b) (yOp g va vb) := fun W h η e r =>
  .bnd (ha W h η e r) fun W1 h1 u d x1 r1 => .bnd (hb W1 h1 η e (r.ex x1)) fun W2 h2 w d2 x2 r2 => o W2 h2 d d2 u w (r1.ex x2) r2
theorem e_Un {f : U → M U} {g : D → VM D} (o : ∀ W h d u, RelV CT W h d u → Sm CT (RelV CT) W h (f u) (g d)) (ha : EvS CT a va) : EvS CT (xUn f a) (yUn g va) := fun W h η e r =>
  .bnd (ha W h η e r) fun W1 h1 u d x1 r1 => o W1 h1 d u r1
theorem e_neg (ha : EvS CT a va) : EvS CT (xUn negU a) (yUn vneg va) := e_Un (fun _ _ _ _ => s_neg) ha
theorem e_rev (ha : EvS CT a va) : EvS CT (xUn revU a) (yUn vrev va) := e_Un (fun _ _ _ _ => s_rev) ha
theorem Sm.ite {α β : Type} {R : Wd → VH → β → α → Prop} {c d : Bool} (e : d = c) {m1 m2 : M α} {v1 v2 : VM β} (f : Sm CT R W h m1 v1) (g : Sm CT R W h m2 v2) : Sm CT R W h (if d = true then m1 else m2) (vcase c v1 v2) := by
  subst e
  refine .case (fun e => ?_) fun e => ?_
  · subst e
    exact f
  · subst e
    exact g
theorem e_If (ht : TvS CT t vt) (ha : EvS CT a va) (hb : EvS CT b vb) : EvS CT (xIf t a b) (yIf vt va vb) := fun W h η e r =>
  .bnd (ht W h η e r) fun W1 h1 u d x1 r1 => .ite r1 (ha _ _ _ _ (r.ex x1)) (hb _ _ _ _ (r.ex x1))
theorem e_And (ha : EvS CT a va) (hb : EvS CT b vb) : EvS CT (xAnd a b) (yAnd va vb) := fun W h η e r =>
  .bnd (ha W h η e r) fun W1 h1 u d x1 r1 => .bnd (s_tru r1) fun W2 h2 c k x2 r2 => .ite r2 (hb _ _ _ _ (r.ex (x1.trans x2))) (.ret (r1.ex x2))
theorem e_Or (ha : EvS CT a va) (hb : EvS CT b vb) : EvS CT (xOr a b) (yOr va vb) := fun W h η e r =>
  .bnd (ha W h η e r) fun W1 h1 u d x1 r1 => .bnd (s_tru r1) fun W2 h2 c k x2 r2 => .ite r2 (.ret (r1.ex x2)) (hb _ _ _ _ (r.ex (x1.trans x2)))
theorem e_Not (ha : EvS CT a va) : EvS CT (xNot a) (yNot va) := fun W h η e r =>
  .bnd (ha W h η e r) fun W1 h1 u d x1 r1 => .bnd (s_tru r1) fun W2 h2 c k x2 r2 => by subst r2; exact .ret rel_bl
theorem l_nil : LvS CT (evL []) (yevL []) := fun W h η e r => .ret .nil
theorem l_cons {ms : List EM} {vs : List EV} (ha : EvS CT a va) (hs : LvS CT (evL ms) (yevL vs)) : LvS CT (evL (a :: ms)) (yevL (va :: vs)) := fun W h η e r => by
  show Sm CT (RelVs CT) W h (MP.bnd (a e) fun u => MP.bnd (evL ms e) fun us => mret (u :: us)) (vbnd (va η) fun u => vbnd (yevL vs η) fun us => vret (u :: us))
  exact .bnd (ha W h η e r) fun W1 h1 u d x1 r1 => .bnd (hs _ _ _ _ (r.ex x1)) fun W2 h2 us ds x2 r2 => .ret (.cons (RelV.ex x2 _ _ r1) r2)
variable {ms : List EM} {vs : List EV}
theorem e_Tup (hs : LvS CT (evL ms) (yevL vs)) : EvS CT (xTup ms) (yTup vs) := fun W h η e r => .bnd (hs _ _ _ _ r) fun W1 h1 us ds x1 r1 => .ret (rel_tup r1)
theorem e_Lst (hs : LvS CT (evL ms) (yevL vs)) : EvS CT (xLst ms) (yLst vs) := fun W h η e r => .bnd (hs _ _ _ _ r) fun W1 h1 us ds x1 r1 => .newL r1
theorem e_LstM (hs : LvS CT (evL ms) (yevL vs)) : EvS CT (xLst ms) (yLstM vs) := fun W h η e r => .bnd (hs _ _ _ _ r) fun W1 h1 us ds x1 r1 => .newM r1
theorem e_Chain {f g : O2} {f' g' : V2} (o1 : OpS CT f f') (o2 : OpS CT g g') (ha : EvS CT a va) (hb : EvS CT b vb) (hc : EvS CT c vc) : EvS CT (xChain f g a b c) (yChain f' g' va vb vc) := fun W h η e r =>
  .bnd (ha W h η e r) fun W1 h1 u d x1 r1 => .bnd (hb W1 h1 η e (r.ex x1)) fun W2 h2 w d2 x2 r2 => .bnd (o1 W2 h2 d d2 u w (r1.ex x2) r2) fun W3 h3 z k x3 r3 => by
    cases k <;> first | exact Sm.bad | skip
    unfold RelV at r3
    subst r3
    exact .ite rfl (.bnd (hc _ _ _ _ (r.ex (x1.trans (x2.trans x3)))) fun W4 h4 y d4 x4 r4 => o2 _ _ _ _ _ _ (r2.ex (x3.trans x4)) r4) (.ret rel_bl)
def PtS (CT : CTab) (m : Option EM) (v : Option EV) : Prop := ∀ W h η e, RelE CT W h η e → Sm CT (fun _ _ b a => a = b) W h (partM m e) (vpart v η)
theorem p_none : PtS CT none none := fun W h η e r => .ret rfl
theorem p_some (ha : EvS CT a va) : PtS CT (some a) (some va) := fun W h η e r => by
  show Sm CT (fun _ _ b a => a = b) W h (MP.bnd (a e) fun u => match u with
    | .int i => mret (some i)
    | _ => mbad) (vbnd (va η) fun u => match u with
    | .int i => vret (some i)
    | _ => vbad)
  refine .bnd (ha W h η e r) fun W1 h1 u d x1 r1 => ?_
  cases d <;> first | exact Sm.bad | skip
  unfold RelV at r1
  subst r1
  exact .ret rfl
theorem e_Sl {lo hi : Option EM} {vl vh : Option EV} (ha : EvS CT a va) (hl : PtS CT lo vl) (hh : PtS CT hi vh) : EvS CT (xSl a lo hi) (ySl va vl vh) := fun W h η e r =>
  .bnd (ha W h η e r) fun W1 h1 u d x1 r1 => .bnd (hl _ _ _ _ (r.ex x1)) fun W2 _ l l' x2 r2 => .bnd (hh _ _ _ _ (r.ex (x1.trans x2))) fun W3 _ k k' x3 r3 => by
    subst r2; subst r3
    exact s_sl (r1.ex (x2.trans x3))
theorem e_Fld {cs : List Str} {f : Str} {tbl : List (Nat × Nat)} (ok : FldOk CT cs f tbl) (ha : EvS CT a va) : EvS CT (xFld cs f a) (yFld tbl va) := fun W h η e r => .bnd (ha W h η e r) fun W1 h1 u d x1 r1 => s_fld ok r1
theorem e_Fn {f : List U → M U} {g : FV} (hf : FnS CT f g) (hs : LvS CT (evL ms) (yevL vs)) : EvS CT (xFn f [] ms) (yFn g vs) := fun W h η e r => .bnd (hs _ _ _ _ r) fun W1 h1 us ds x1 r1 => by
  rw [List.append_nil]
  exact hf _ _ _ _ r1
theorem e_B {f : List U → M U} {g : FV} (hf : FnS CT f g) (hs : LvS CT (evL ms) (yevL vs)) : EvS CT (xB f ms) (yFn g vs) := fun W h η e r => .bnd (hs _ _ _ _ r) fun W1 h1 us ds x1 r1 => hf _ _ _ _ r1
theorem e_Is {kc cs : List Str} {k : Kd} (ok : KdOk CT kc cs k) (ha : EvS CT a va) : EvS CT (xIs kc cs a) (yIs k va) := fun W h η e r => .bnd (ha W h η e r) fun W1 h1 u d x1 r1 => s_isk ok r1
theorem e_Frz (ha : EvS CT a va) : EvS CT a (yFrz va) := fun W h η e r n s Q X l q => by
  have k : Sm CT (RelV CT) W h (MP.bnd (a e) mret) (yFrz va η) := .bnd (ha W h η e r) fun W1 h1 u d x1 r1 => by
    cases d <;> first | exact .ret r1 | skip
    intro n s Q X l q
    obtain ⟨xs, q1, q2⟩ := q
    obtain ⟨m, us, e1, rfl, e2, e3⟩ := l.lst r1 q1
    refine .inl ⟨.ref m, h1, _, .lst xs, n, _, rfl, .kill l q1, l.kill q1, ?_, q2⟩
    unfold RelV
    exact ⟨m, us, rfl, e2, kill_fr l e1, RelVs.ex (.kill l q1) _ _ e3⟩
  have e1 : MP.bnd (a e) mret h = a e h := by
    unfold MP.bnd
    cases a e h <;> rfl
  have := k n s Q X l q
  rw [e1] at this
  exact this
theorem s_frzs : ∀ {ds : List D} {us : List U} {W : Wd} {h : VH}, RelVs CT W h ds us → Sm CT (fun W' h' b _ => h' = h ∧ RelVs CT W' h' b us) W h (mret ()) (vfrzs ds)
  | [], us, W, h, r => .ret ⟨rfl, r⟩
  | d :: ds, us, W, h, r => by
    obtain ⟨u, z, rfl, r1, r2⟩ := r.uncons
    by_cases hr : ∃ k, d = .ref k
    · obtain ⟨k, rfl⟩ := hr
      intro n s Q X l q
      obtain ⟨xs, q1, q⟩ := q
      obtain ⟨m, us, e1, rfl, e2, e3⟩ := l.lst r1 q1
      have x1 : Ex W h (W.kill k) h := .kill l q1
      rcases s_frzs (RelVs.ex x1 _ _ r2) n _ _ X (l.kill q1) q with ⟨a, h2, W2, b, n2, s2, g1, g2, g3, ⟨g4, g5⟩, g6⟩ | ⟨c, fs, h2, W2, c', vs, n2, s2, g1, _⟩
      · subst g4
        refine .inl ⟨a, _, W2, .lst xs :: b, n2, s2, g1, x1.trans g2, g3, ⟨rfl, .cons ?_ g5⟩, g6⟩
        unfold RelV
        obtain ⟨a1, a2⟩ := g2.fr m _ e2 (kill_fr l e1)
        exact ⟨m, us, rfl, a1, a2, RelVs.ex (x1.trans g2) _ _ e3⟩
      · cases g1
    · have key : Sm CT (fun W' h' b _ => h' = h ∧ RelVs CT W' h' b (u :: z)) W h (mret ()) (vbnd (vfrzs ds) fun r => vret (d :: r)) := by
        intro n s Q X l q
        rcases s_frzs r2 n s _ X l q with ⟨a, h2, W2, b, n2, s2, g1, g2, g3, ⟨g4, g5⟩, g6⟩ | ⟨c, fs, h2, W2, c', vs, n2, s2, g1, _⟩
        · subst g4
          exact .inl ⟨a, _, W2, d :: b, n2, s2, g1, g2, g3, ⟨rfl, .cons (RelV.ex g2 _ _ r1) g5⟩, g6⟩
        · cases g1
      cases d <;> first | exact key | exact absurd ⟨_, rfl⟩ hr
theorem e_Frz2 (ha : EvS CT a va) : EvS CT a (yFrz2 va) := fun W h η e r n s Q X l q => by
  have k : Sm CT (RelV CT) W h (MP.bnd (a e) mret) (yFrz2 va η) := .bnd (ha W h η e r) fun W1 h1 u d x1 r1 => by
    cases d <;> first | exact .ret r1 | skip
    unfold RelV at r1
    obtain ⟨m, us, rfl, e1, e2, e3⟩ := r1
    intro n s Q X l q
    rcases s_frzs e3 n s _ X l q with ⟨_, h2, W2, b, n2, s2, g1, g2, g3, ⟨g4, g5⟩, g6⟩ | ⟨c, fs, h2, W2, c', vs, n2, s2, g1, _⟩
    · subst g4
      refine .inl ⟨.ref m, _, W2, .lst b, n2, s2, rfl, g2, g3, ?_, g6⟩
      unfold RelV
      obtain ⟨a1, a2⟩ := g2.fr m _ e1 e2
      exact ⟨m, us, rfl, a1, a2, g5⟩
    · cases g1
  have e1 : MP.bnd (a e) mret h = a e h := by
    unfold MP.bnd
    cases a e h <;> rfl
  have := k n s Q X l q
  rw [e1] at this
  exact this
/-! methods -/
theorem Sm.isList {α : Type} {R : Wd → VH → D → α → Prop} {m : M α} {v : VM D} {d : D} {u : U} (r : RelV CT W h d u) (f : ∀ j us, u = .ref j → h[j]? = some (.lst us) → Sm CT R W h m v) : Sm CT R W h m (MV.isList d v) := by
  cases d <;> first | exact Sm.bad | skip
  · unfold RelV at r
    obtain ⟨j, us, e1, e2, e3, e4⟩ := r
    exact f j us e1 e2
  · intro n s Q X l q
    obtain ⟨⟨xs, q1⟩, q⟩ := q
    obtain ⟨m, us, e1, e2, e3, e4⟩ := l.lst r q1
    exact f m us e2 e3 n s Q X l q
theorem s_lm {G : Str → Str → List U → M U} {m : Str} {cs : List Str} {j : Nat} {us : List U} {ar : M (List U)} (hm : m = "append" ∨ m = "extend" ∨ m = "pop" ∨ m = "index") (e : h[j]? = some (.lst us)) : callM G m cs [] (.ref j) ar h = MP.bnd ar (fun us => lstM m (.ref j) us) h := by
  unfold callM
  simp only [e]
  rw [if_pos hm]
variable {G : Str → Str → List U → M U} {cs : List Str}
theorem e_App (ha : EvS CT a va) (hs : LvS CT (evL ms) (yevL vs)) : EvS CT (xMth G "append" cs [] a ms) (yApp va vs) := fun W h η e r => .bnd (ha W h η e r) fun W1 h1 u d x1 r1 => .isList r1 fun j us ej hj => by
  subst ej
  exact .of_eq (s_lm (.inl rfl) hj) (.bnd (hs _ _ _ _ (r.ex x1)) fun W2 h2 us ds x2 r2 => s_app (r1.ex x2) r2)
theorem e_Ext (ha : EvS CT a va) (hs : LvS CT (evL ms) (yevL vs)) : EvS CT (xMth G "extend" cs [] a ms) (yExt va vs) := fun W h η e r => .bnd (ha W h η e r) fun W1 h1 u d x1 r1 => .isList r1 fun j us ej hj => by
  subst ej
  exact .of_eq (s_lm (.inr (.inl rfl)) hj) (.bnd (hs _ _ _ _ (r.ex x1)) fun W2 h2 us ds x2 r2 => s_ext (r1.ex x2) r2)
theorem e_Pop (ha : EvS CT a va) (hs : LvS CT (evL ms) (yevL vs)) : EvS CT (xMth G "pop" cs [] a ms) (yPop va vs) := fun W h η e r => .bnd (ha W h η e r) fun W1 h1 u d x1 r1 => .isList r1 fun j us ej hj => by
  subst ej
  exact .of_eq (s_lm (.inr (.inr (.inl rfl))) hj) (.bnd (hs _ _ _ _ (r.ex x1)) fun W2 h2 us ds x2 r2 => s_pop (r1.ex x2) r2)
theorem e_Idx (ha : EvS CT a va) (hs : LvS CT (evL ms) (yevL vs)) : EvS CT (xMth G "index" cs [] a ms) (yIdx va vs) := fun W h η e r => .bnd (ha W h η e r) fun W1 h1 u d x1 r1 => by
  have key : (∀ xs, d ≠ .tup xs) → Sm CT (RelV CT) W1 h1 (callM G "index" cs [] u (evL ms e)) (MV.isList d (vbnd (yevL vs η) (vidx d))) := fun hd => .isList r1 fun j us ej hj => by
    subst ej
    exact .of_eq (s_lm (.inr (.inr (.inr rfl))) hj) (.bnd (hs _ _ _ _ (r.ex x1)) fun W2 h2 us ds x2 r2 => s_idx (r1.ex x2) hd r2)
  cases d <;> first | exact key (fun _ z => nomatch z) | skip
  have r1' := r1
  unfold RelV at r1
  obtain ⟨us, rfl, _⟩ := r1
  have e1 : callM G "index" cs [] (.tup us) (evL ms e) h1 = MP.bnd (evL ms e) (fun ws => tupM "index" (.tup us) ws) h1 := by
    unfold callM
    simp only [if_true]
  exact .of_eq e1 (.bnd (hs _ _ _ _ (r.ex x1)) fun W2 h2 us ds x2 r2 => s_tidx (r1'.ex x2) r2)
theorem e_Join (ha : EvS CT a va) (hs : LvS CT (evL ms) (yevL vs)) : EvS CT (xMth G "join" cs [] a ms) (yJoin va vs) := fun W h η e r => .bnd (ha W h η e r) fun W1 h1 u d x1 r1 => by
  cases d <;> first | exact Sm.bad | skip
  rename_i x
  have r1' := r1
  unfold RelV at r1
  subst r1
  have e1 : callM G "join" cs [] (.str x) (evL ms e) h1 = MP.bnd (evL ms e) (fun ws => strM "join" (.str x) ws) h1 := by
    unfold callM
    simp only [if_true]
  exact .of_eq e1 (.bnd (hs _ _ _ _ (r.ex x1)) fun W2 h2 us ds x2 r2 => s_join (r1'.ex x2) r2)
/-- a method of own classes -/
def MtOk (CT : CTab) (G : Str → Str → List U → M U) (m : Str) (cs : List Str) (tbl : List (Nat × FV)) : Prop := ∀ p ∈ tbl, FnS CT (G (CT p.1).1 m) p.2 ∧ (CT p.1).1 ∈ cs ∧ m ∉ (CT p.1).2
theorem lookup_no {m : Str} {ks : List Str} (hm : m ∉ ks) : ∀ {fs : Fs}, NamesOk ks fs → fs.lookup m = none := fun {fs} e => by
  have h1 : m ∉ fs.map (·.1) := fun z => by
    rw [e.1] at z
    exact hm (List.mem_of_mem_take z)
  have h2 : ∀ (fs : Fs), m ∉ fs.map (·.1) → fs.lookup m = none := fun fs => by
    induction fs with
    | nil => intro _; rfl
    | cons p fs ih =>
      intro hn
      obtain ⟨g, x⟩ := p
      have : (m == g) = false := by
        rw [beq_eq_false_iff_ne]
        exact fun z => hn (by simp [z])
      simp only [List.lookup_cons, this]
      exact ih fun z => hn (by simp [z])
  exact h2 fs h1
theorem e_Meth {m : Str} {tbl : List (Nat × FV)} (ok : MtOk CT G m cs tbl) (ha : EvS CT a va) (hs : LvS CT (evL ms) (yevL vs)) : EvS CT (xMth G m cs [] a ms) (yMeth tbl va vs) := fun W h η e r => .bnd (ha W h η e r) fun W1 h1 u d x1 r1 => by
  have key : ∀ (c j : Nat) (fs : Fs) (g : FV), u = .ref j → h1[j]? = some (.ins (CT c).1 fs) → NamesOk (CT c).2 fs → lk tbl c = some g → Sm CT (RelV CT) W1 h1 (callM G m cs [] u (evL ms e)) (vbnd (yevL vs η) fun us => g (d :: us)) := fun c j fs g ej hj nm hg => by
    subst ej
    obtain ⟨o1, o2, o3⟩ := ok _ (lk_mem hg)
    have e1 : callM G m cs [] (.ref j) (evL ms e) h1 = MP.bnd (evL ms e) (fun us => G (CT c).1 m (.ref j :: (us ++ []))) h1 := by
      unfold callM
      simp only [hj]
      rw [if_pos ⟨o2, lookup_no o3 nm⟩]
    refine .of_eq e1 (.bnd (hs _ _ _ _ (r.ex x1)) fun W2 h2 us ds x2 r2 => ?_)
    rw [List.append_nil]
    exact o1 _ _ _ _ (.cons (r1.ex x2) r2)
  cases d <;> first | exact Sm.bad | skip
  · rename_i c ws
    have r1' := r1
    unfold RelV at r1'
    obtain ⟨j, fs, ej, hj, _, nm, _⟩ := r1'
    unfold vcls
    simp only [ofOp]
    cases hg : lk tbl c with
    | none => exact Sm.bad
    | some g => exact key c j fs g ej hj nm hg
  · intro n s Q X l q
    obtain ⟨c, ws, g, q1, q2, q⟩ := q
    obtain ⟨j, vo, e1, ej, hj, e4, _⟩ := l.ref r1 q1 (fun z => nomatch z)
    obtain ⟨fs, rfl, nm, _⟩ := e4
    exact key c j fs g ej hj nm q2 n s Q X l q
end
/-! tests -/
section
variable {a : EM} {va : EV} {t t2 : TM} {vt vt2 : TV}
theorem t_U (ha : EvS CT a va) : TvS CT (tU a) (uU va) := fun W h η e r => .bnd (ha W h η e r) fun W1 h1 u d x1 r1 => s_tru r1
theorem t_Bl (ha : EvS CT a va) : TvS CT (tBl a) (uBl va) := fun W h η e r => .bnd (ha W h η e r) fun W1 h1 u d x1 r1 => by
  cases d <;> first | exact Sm.bad | skip
  unfold RelV at r1
  subst r1
  exact .ret rfl
theorem t_Not (ht : TvS CT t vt) : TvS CT (tNot t) (uNot vt) := fun W h η e r => .bnd (ht W h η e r) fun W1 h1 u d x1 r1 => by subst r1; exact .ret rfl
theorem t_And (ht : TvS CT t vt) (ht2 : TvS CT t2 vt2) : TvS CT (tAnd t t2) (uAnd vt vt2) := fun W h η e r => .bnd (ht W h η e r) fun W1 h1 u d x1 r1 => .ite r1 (ht2 _ _ _ _ (r.ex x1)) (.ret rfl)
theorem t_Or (ht : TvS CT t vt) (ht2 : TvS CT t2 vt2) : TvS CT (tOr t t2) (uOr vt vt2) := fun W h η e r => .bnd (ht W h η e r) fun W1 h1 u d x1 r1 => .ite r1 (.ret rfl) (ht2 _ _ _ _ (r.ex x1))
theorem t_Yes : TvS CT tYes uYes := fun W h η e r => .ret rfl
end
/-! what is walked -/
section
variable {a b : EM} {va vb : EV}
theorem i_V (ha : EvS CT a va) : ItS CT (itV a) (jtV va) := fun W h η e r => .bnd (ha W h η e r) fun W1 h1 u d x1 r1 => by
  cases d <;> first | exact Sm.bad | skip
  · unfold RelV at r1
    subst r1
    exact .of_eq (m' := mret ⟨[], chrs _⟩) rfl (.ret ⟨.map (fun _ => rel_str) _, fun p hp => by cases hp⟩)
  · unfold RelV at r1
    obtain ⟨us, rfl, rs⟩ := r1
    exact .of_eq (m' := mret ⟨[], us⟩) rfl (.ret ⟨rs, fun p hp => by cases hp⟩)
  · unfold RelV at r1
    obtain ⟨j, us, rfl, e1, e2, rs⟩ := r1
    refine .of_eq (m' := mret ⟨[(j, .lst us)], us⟩) (by unfold itU; simp only [e1]; rfl) (.ret ⟨rs, fun p hp => ?_⟩)
    rw [List.mem_singleton.mp hp]
    exact ⟨e1, e2⟩
  · unfold RelV at r1
    obtain ⟨j, us, rfl, e1, e2, rs⟩ := r1
    exact .of_eq (m' := mret ⟨[], us⟩) (by unfold itU; simp only [e1]; rfl) (.ret ⟨rs, fun p hp => by cases hp⟩)
  · intro n s Q X l q
    obtain ⟨xs, q1, q⟩ := q
    obtain ⟨m, us, e1, rfl, e2, e3⟩ := l.lst r1 q1
    exact Sm.of_eq (m' := mret ⟨[(m, .lst us)], us⟩) (by unfold itU; simp only [e2]; rfl) (.ret ⟨e3, m, us, e1, e2, rfl⟩) n s Q X l q
theorem i_R1 (ha : EvS CT a va) : ItS CT (itR1 a) (jtR1 va) := fun W h η e r => .bnd (ha W h η e r) fun W1 h1 u d x1 r1 => by
  cases d <;> first | exact Sm.bad | skip
  unfold RelV at r1
  subst r1
  refine .req fun c => ?_
  simp only
  rw [if_pos c]
  exact .ret ⟨.map (fun _ => rel_int) _, fun p hp => by cases hp⟩
theorem i_R2 (ha : EvS CT a va) (hb : EvS CT b vb) : ItS CT (itR2 a b) (jtR2 va vb) := fun W h η e r => .bnd (ha W h η e r) fun W1 h1 u d x1 r1 => .bnd (hb _ _ _ _ (r.ex x1)) fun W2 h2 w d2 x2 r2 => by
  cases d <;> first | exact Sm.bad | skip
  cases d2 <;> first | exact Sm.bad | skip
  unfold RelV at r1 r2
  subst r1; subst r2
  refine .req fun c => ?_
  simp only
  rw [if_pos c]
  exact .ret ⟨.map (fun _ => rel_int) _, fun p hp => by cases hp⟩
theorem enum_rel : ∀ {ds : List D} {us : List U} (i : Nat), RelVs CT W h ds us → RelVs CT W h (enumD i ds) (enumL i us)
  | [], us, i, r => by unfold RelVs at r; subst r; exact .nil
  | d :: ds, us, i, r => by
    obtain ⟨u, z, rfl, r1, r2⟩ := r.uncons
    exact .cons (rel_tup (.cons rel_int (.one r1))) (enum_rel (i + 1) r2)
theorem i_E (ha : EvS CT a va) : ItS CT (itE a) (jtE va) := fun W h η e r => .bnd (ha W h η e r) fun W1 h1 u d x1 r1 => by
  cases d <;> first | exact Sm.bad | skip
  · unfold RelV at r1
    obtain ⟨us, rfl, rs⟩ := r1
    exact .of_eq (m' := mret ⟨[], enumL 0 us⟩) rfl (.ret ⟨enum_rel 0 rs, fun p hp => by cases hp⟩)
  · unfold RelV at r1
    obtain ⟨j, us, rfl, e1, e2, rs⟩ := r1
    refine .of_eq (m' := mret ⟨[(j, .lst us)], enumL 0 us⟩) (by simp only [e1]; rfl) (.ret ⟨enum_rel 0 rs, fun p hp => ?_⟩)
    rw [List.mem_singleton.mp hp]
    exact ⟨e1, e2⟩
  · unfold RelV at r1
    obtain ⟨j, us, rfl, e1, e2, rs⟩ := r1
    exact .of_eq (m' := mret ⟨[], enumL 0 us⟩) (by simp only [e1]; rfl) (.ret ⟨enum_rel 0 rs, fun p hp => by cases hp⟩)
  · intro n s Q X l q
    obtain ⟨xs, q1, q⟩ := q
    obtain ⟨m, us, e1, rfl, e2, e3⟩ := l.lst r1 q1
    refine .inl ⟨(⟨[(m, .lst us)], enumL 0 us⟩ : Itr), h1, W1, (⟨some (_, xs), enumD 0 xs⟩ : VI), n, s, ?_, .refl, l, ⟨enum_rel 0 e3, m, us, e1, e2, rfl⟩, q⟩
    simp only [e2]
theorem g_tg (tg : Tg) : GvS CT (tgM tg) (tgV tg) := fun W h d u η e r r2 => by
  cases tg with
  | one i => exact .ret (r2.set i r)
  | many is =>
    refine .withS r fun xs us e1 _ rs => .req fun c => ?_
    refine .of_eq (m' := mret (setAll is us e)) ?_ (.ret (r2.sets is rs))
    unfold tgM
    simp only [e1]
    rw [if_pos (by rw [rs.len]; exact c)]
    rfl
end
theorem Sm.noX {α β : Type} {R : Wd → VH → β → α → Prop} {m : M α} {v : VM β} (f : Sm CT R W h m v) : Sm CT R W h (MP.noX m) (vnoX v) := fun n s Q X l q => by
  rcases f n s _ _ l q with ⟨a, h1, W1, b, n1, s1, e1, r⟩ | ⟨_, _, _, _, _, _, _, _, _, _, _, _, z⟩
  · refine .inl ⟨a, h1, W1, b, n1, s1, ?_, r⟩
    unfold MP.noX
    rw [e1]
  · exact z.elim
theorem ok_w {w : List (Nat × VO)} (hw : WkOk W h w) : okW w h = true := by
  unfold okW
  rw [List.all_eq_true]
  intro p hp
  exact decide_eq_true (hw p hp).1
theorem w_ex {w : List (Nat × VO)} (x : Ex W h W' h') (hw : WkOk W h w) : WkOk W' h' w := fun p hp => by
  obtain ⟨e, f⟩ := hw p hp
  rcases f with f | ⟨k, hk, f⟩
  · obtain ⟨a, b⟩ := x.fr _ _ e f
    exact ⟨a, .inl b⟩
  · obtain ⟨a, b⟩ := x.lk k hk
    obtain ⟨c, d⟩ := b _ _ f e
    exact ⟨d, .inr ⟨k, a, c⟩⟩
/-- a walk over what is held -/
theorem Sm.hold {α β : Type} {R : Wd → VH → β → α → Prop} (hR : ∀ W k h b a, R W h b a → R (W.unlock k) h b a) {V : VI} {I : Itr} {m : M α} {v : VM β} (r : RelI CT W h V I) (f : ∀ W1, Ex W h W1 h → WkOk W1 h I.w → Sm CT R W1 h m v) : Sm CT R W h m (vhold V.w v) := by
  obtain ⟨w, us⟩ := V
  obtain ⟨r1, r2⟩ := r
  cases w with
  | none => exact f W .refl fun p hp => ⟨(r2 p hp).1, .inl (r2 p hp).2⟩
  | some q =>
    obtain ⟨m', us', e1, e2, e3⟩ := r2
    intro n s Q X l p
    obtain ⟨p1, p2⟩ := p
    rcases f (W.lock q.1) .lock (fun p hp => by rw [e3] at hp; rw [List.mem_singleton.mp hp]; exact ⟨e2, .inr ⟨q.1, List.mem_cons_self, e1⟩⟩) n _ _ _ (l.lock p1) p2 with ⟨a, h2, W2, b, n2, s2, g1, g2, g3, g4, g5⟩ | ⟨c, fs, h2, W2, c', vs, n2, s2, g1, g2, g3, ⟨k1, k2, k3⟩, g5⟩
    · obtain ⟨u1, u2⟩ := l.unlock p1 g2 g3
      exact .inl ⟨a, h2, _, b, n2, _, g1, u2, u1, hR _ _ _ _ _ g4, g5⟩
    · obtain ⟨u1, u2⟩ := l.unlock p1 g2 g3
      exact .inr ⟨c, fs, h2, _, c', vs, n2, _, g1, u2, u1, ⟨k1, k2, RelVs.ex0 .unlock _ _ k3⟩, g5⟩
def RelOp (CT : CTab) (W : Wd) (h : VH) (d : Option D) (u : Option U) : Prop := match d with
  | none => u = none
  | some d => ∃ w, u = some w ∧ RelV CT W h d w
theorem s_comp1 {tg : Tg} {t : TM} {vt : TV} {a : EM} {va : EV} (ht : TvS CT t vt) (ha : EvS CT a va) {d : D} {u : U} {η : VE} {e : MP.Env} (r : RelV CT W h d u) (r2 : RelE CT W h η e) : Sm CT (RelOp CT) W h (compT1 (tgM tg) t a u e) (vcomp1 (tgV tg) vt va d η) :=
  .noX (.bnd (g_tg tg _ _ _ _ _ _ r r2) fun W1 h1 e1 η1 x1 r1 => .bnd (ht _ _ _ _ r1) fun W2 h2 c k x2 r3 => .ite r3 (.bnd (ha _ _ _ _ (r1.ex x2)) fun W3 h3 w d3 x3 r4 => .ret ⟨w, rfl, r4⟩) (.ret rfl))
theorem s_compL {tg : Tg} {t : TM} {vt : TV} {a : EM} {va : EV} (ht : TvS CT t vt) (ha : EvS CT a va) {w : List (Nat × VO)} {η : VE} {e : MP.Env} : ∀ {ds : List D} {us : List U} {W : Wd} {h : VH}, RelVs CT W h ds us → RelE CT W h η e → WkOk W h w → Sm CT (RelVs CT) W h (MP.compL w (tgM tg) t a us e) (vcompL (tgV tg) vt va ds η)
  | [], us, W, h, r, r2, hw => by
    unfold RelVs at r
    subst r
    refine .of_eq (m' := mret []) ?_ (.ret .nil)
    unfold MP.compL
    rw [if_pos (ok_w hw)]
    rfl
  | d :: ds, us, W, h, r, r2, hw => by
    obtain ⟨u, z, rfl, r3, r4⟩ := r.uncons
    refine .of_eq (m' := MP.bnd (compT1 (tgM tg) t a u e) fun o => MP.bnd (MP.compL w (tgM tg) t a z e) fun vs => mret (o.toList ++ vs)) ?_ (.bnd (s_comp1 ht ha r3 r2) fun W1 h1 o o' x1 r5 => .bnd (s_compL ht ha (RelVs.ex x1 _ _ r4) (r2.ex x1) (w_ex x1 hw)) fun W2 h2 vs ws x2 r6 => .ret ?_)
    · show (if okW w h = true then _ else _) = _
      rw [if_pos (ok_w hw)]
    · cases o' with
      | none =>
        have : o = none := r5
        subst this
        exact r6
      | some d' =>
        obtain ⟨w', rfl, r7⟩ := r5
        exact .cons (r7.ex x2) r6
theorem e_LcG {it : MP.Env → M Itr} {vit : VE → VM VI} {tg : Tg} {t : TM} {vt : TV} {a : EM} {va : EV} {K : List D → VM D} (hK : ∀ W h ds us, RelVs CT W h ds us → Sm CT (RelV CT) W h (MP.newL us) (K ds)) (hi : ItS CT it vit) (ht : TvS CT t vt) (ha : EvS CT a va) : EvS CT (xLc it tg t a) (yLcG vit tg vt va K) := fun W h η e r =>
  .bnd (hi _ _ _ _ r) fun W1 h1 I ds x1 r1 => .req fun c => by
    rw [if_pos (by rw [r1.1.len]; exact c)]
    rw [vcompI_eq]
    exact .bnd (R := RelVs CT) (.hold (fun W k h b a z => RelVs.ex0 .unlock _ _ z) r1 fun W2 y2 hw => s_compL ht ha (RelVs.ex y2 _ _ r1.1) (r.ex (x1.trans y2)) hw) fun W2 h2 us ds x2 r2 => hK _ _ _ _ r2
theorem e_Lc {it : MP.Env → M Itr} {vit : VE → VM VI} {tg : Tg} {t : TM} {vt : TV} {a : EM} {va : EV} (hi : ItS CT it vit) (ht : TvS CT t vt) (ha : EvS CT a va) : EvS CT (xLc it tg t a) (yLc vit tg vt va) := e_LcG (fun _ _ _ _ r => .newL r) hi ht ha
theorem e_LcM {it : MP.Env → M Itr} {vit : VE → VM VI} {tg : Tg} {t : TM} {vt : TV} {a : EM} {va : EV} (hi : ItS CT it vit) (ht : TvS CT t vt) (ha : EvS CT a va) : EvS CT (xLc it tg t a) (yLcM vit tg vt va) := e_LcG (fun _ _ _ _ r => .newM r) hi ht ha
/-! statements -/
section
variable {a b c : EM} {va vb vc : EV} {t : TM} {vt : TV} {s1 s2 : SM} {z1 z2 : SV}
theorem z_nil : StS CT sNil zNil := fun W h η e r => .ret ⟨e, rfl, r⟩
theorem z_seq (h1 : StS CT s1 z1) (h2 : StS CT s2 z2) : StS CT (sSeq s1 s2) (zSeq z1 z2) := fun W h η e r => .bnd (h1 _ _ _ _ r) fun W1 h1 f g x1 r1 => by
  cases g with
  | next η' =>
    obtain ⟨e', rfl, r2⟩ := r1
    exact h2 _ _ _ _ r2
  | ret d =>
    obtain ⟨u, rfl, r2⟩ := r1
    exact .ret ⟨u, rfl, r2⟩
  | brk η' =>
    obtain ⟨u, rfl, r2⟩ := r1
    exact .ret ⟨u, rfl, r2⟩
  | cont η' =>
    obtain ⟨u, rfl, r2⟩ := r1
    exact .ret ⟨u, rfl, r2⟩
theorem z_tg {tg : Tg} (ha : EvS CT a va) : StS CT (sTg tg a) (zTg tg va) := fun W h η e r => .bnd (ha _ _ _ _ r) fun W1 h1 u d x1 r1 => .bnd (g_tg tg _ _ _ _ _ _ r1 (r.ex x1)) fun W2 h2 e' η' x2 r2 => .ret ⟨e', rfl, r2⟩
theorem z_par {is : List Nat} {ms : List EM} {vs : List EV} (hs : LvS CT (evL ms) (yevL vs)) : StS CT (sPar is ms) (zPar is vs) := fun W h η e r => .bnd (hs _ _ _ _ r) fun W1 h1 us ds x1 r1 => .ret ⟨_, rfl, (r.ex x1).sets is r1⟩
theorem z_put (ho : EvS CT a va) (hi : EvS CT b vb) (hm : EvS CT c vc) : StS CT (sPut a b c) (zPut va vb vc) := fun W h η e r => .bnd (hm _ _ _ _ r) fun W1 h1 u d x1 r1 => .bnd (ho _ _ _ _ (r.ex x1)) fun W2 h2 u2 d2 x2 r2 => .bnd (hi _ _ _ _ (r.ex (x1.trans x2))) fun W3 h3 u3 d3 x3 r3 =>
  .bnd (s_set (r2.ex x3) r3 (r1.ex (x2.trans x3))) fun W4 h4 _ _ x4 _ => .ret ⟨e, rfl, r.ex (x1.trans (x2.trans (x3.trans x4)))⟩
theorem z_fld {cs : List Str} {f : Str} {tbl : List (Nat × Nat)} (ok : FldOk CT cs f tbl) (ho : EvS CT a va) (hm : EvS CT b vb) : StS CT (sFld cs f a b) (zFld tbl va vb) := fun W h η e r => .bnd (hm _ _ _ _ r) fun W1 h1 u d x1 r1 => .bnd (ho _ _ _ _ (r.ex x1)) fun W2 h2 u2 d2 x2 r2 =>
  .bnd (s_setF ok r2 (r1.ex x2)) fun W3 h3 _ _ x3 _ => .ret ⟨e, rfl, r.ex (x1.trans (x2.trans x3))⟩
theorem z_aug {i : Nat} (ha : EvS CT a va) : StS CT (sAug i (opI fun a b => some (.int (a + b))) a) (zAug i va) := fun W h η e r => .bnd (e_V _ _ _ _ r) fun W1 h1 u d x1 r1 => .bnd (ha _ _ _ _ (r.ex x1)) fun W2 h2 u2 d2 x2 r2 => .bnd (s_plus _ _ _ _ _ _ (r1.ex x2) r2) fun W3 h3 w d3 x3 r3 => .ret ⟨_, rfl, (r.ex (x1.trans (x2.trans x3))).set i r3⟩
theorem z_exp (ha : EvS CT a va) : StS CT (sExp a) (zExp va) := fun W h η e r => .bnd (ha _ _ _ _ r) fun W1 h1 u d x1 r1 => .ret ⟨e, rfl, r.ex x1⟩
theorem z_ret (ha : EvS CT a va) : StS CT (sRet a) (zRet va) := fun W h η e r => .bnd (ha _ _ _ _ r) fun W1 h1 u d x1 r1 => .ret ⟨u, rfl, r1⟩
theorem z_retN : StS CT sRetN zRetN := fun W h η e r => .ret ⟨_, rfl, rel_non⟩
theorem z_if (ht : TvS CT t vt) (h1 : StS CT s1 z1) (h2 : StS CT s2 z2) : StS CT (sIf t s1 s2) (zIf vt z1 z2) := fun W h η e r => .bnd (ht _ _ _ _ r) fun W1 _ u d x1 r1 => .ite r1 (h1 _ _ _ _ (r.ex x1)) (h2 _ _ _ _ (r.ex x1))
theorem z_brk : StS CT sBrk zBrk := fun W h η e r => .ret ⟨e, rfl, r⟩
theorem z_cont : StS CT sCont zCont := fun W h η e r => .ret ⟨e, rfl, r⟩
theorem z_bad : StS CT s1 zBad := fun W h η e r => Sm.bad
theorem s_forL {tg : Tg} (hb : StS CT s1 z1) {w : List (Nat × VO)} : ∀ {ds : List D} {us : List U} {W : Wd} {h : VH} {η : VE} {e : MP.Env}, RelVs CT W h ds us → RelE CT W h η e → WkOk W h w → Sm CT (RelG CT) W h (forL w (tgM tg) s1 us e) (vforL (tgV tg) z1 ds η)
  | [], us, W, h, η, e, r, r2, hw => by
    unfold RelVs at r
    subst r
    refine .of_eq (m' := mret (.next e)) ?_ (.ret ⟨e, rfl, r2⟩)
    unfold forL
    rw [if_pos (ok_w hw)]
    rfl
  | d :: ds, us, W, h, η, e, r, r2, hw => by
    obtain ⟨u, z, rfl, r3, r4⟩ := r.uncons
    refine .of_eq (m' := MP.bnd (MP.bnd (tgM tg u e) s1) fun r => match r with
        | .next η' => forL w (tgM tg) s1 z η'
        | .cont η' => forL w (tgM tg) s1 z η'
        | .brk η' => mret (.next η')
        | .ret v => mret (.ret v)) ?_ (.bnd (.bnd (g_tg tg _ _ _ _ _ _ r3 r2) fun W1 h1 e1 η1 x1 r1 => hb _ _ _ _ r1) fun W2 h2 f g x2 r5 => ?_)
    · show (if okW w h = true then _ else _) = _
      rw [if_pos (ok_w hw)]
      first | done | rfl
    · cases g with
      | next η' =>
        obtain ⟨e', rfl, r6⟩ := r5
        exact s_forL hb (RelVs.ex x2 _ _ r4) r6 (w_ex x2 hw)
      | cont η' =>
        obtain ⟨e', rfl, r6⟩ := r5
        exact s_forL hb (RelVs.ex x2 _ _ r4) r6 (w_ex x2 hw)
      | brk η' =>
        obtain ⟨e', rfl, r6⟩ := r5
        exact .ret ⟨e', rfl, r6⟩
      | ret d =>
        obtain ⟨u, rfl, r6⟩ := r5
        exact .ret ⟨u, rfl, r6⟩
theorem z_for {it : MP.Env → M Itr} {vit : VE → VM VI} {tg : Tg} (hi : ItS CT it vit) (hb : StS CT s1 z1) : StS CT (sFor it tg s1) (zFor vit tg z1) := fun W h η e r => .bnd (hi _ _ _ _ r) fun W1 h1 I ds x1 r1 => by
  rw [vforI_eq]
  exact .hold (fun W k h b a z => RelG.unlock z) r1 fun W2 y2 hw => s_forL hb (RelVs.ex y2 _ _ r1.1) (r.ex (x1.trans y2)) hw
theorem z_while (ht : TvS CT t vt) (hb : StS CT s1 z1) : StS CT (sWhile t s1) (zWhile vt z1) := fun W h η e r n s Q X l q => by
  obtain ⟨I, ⟨m, i0⟩, q⟩ := q
  have key : ∀ (m : Nat) (W : Wd) (h : VH) (η : VE) (e : MP.Env) (n : Nat) (s : DS), RelE CT W h η e → Rl CT W n s h → I m η n s → ∃ k r, whileN t s1 k e h = some r ∧
      ((∃ a h' W' b n' s', r = .ok a h' ∧ Ex W h W' h' ∧ Rl CT W' n' s' h' ∧ RelG CT W' h' b a ∧ Q b n' s') ∨ (∃ c fs h' W' c' ds n' s', r = .exc c fs h' ∧ Ex W h W' h' ∧ Rl CT W' n' s' h' ∧ RelX CT W' h' c' ds c fs ∧ X c' ds n' s')) := by
    intro m
    induction m using Nat.strongRecOn with
    | _ m ih =>
      intro W h η e n s r l hi
      rcases ht W h η e r n s _ X l (q m η n s hi) with ⟨c, h1, W1, b, n1, s1', e1, x1, l1, r1, q1⟩ | ⟨c, fs, h1, W1, c', ds, n1, s1', e1, x1, l1, r1, q1⟩
      · subst r1
        cases c with
        | false =>
          refine ⟨1, .ok (.next e) h1, ?_, .inl ⟨_, h1, W1, .next η, n1, s1', rfl, x1, l1, ⟨e, rfl, r.ex x1⟩, q1.2 rfl⟩⟩
          unfold whileN
          simp only [e1]
          rfl
        | true =>
          rcases hb W1 h1 η e (r.ex x1) n1 s1' _ X l1 (q1.1 rfl) with ⟨f, h2, W2, g, n2, s2', e2, x2, l2, r2, q2⟩ | ⟨c, fs, h2, W2, c', ds, n2, s2', e2, x2, l2, r2, q2⟩
          · have step : ∀ (e' : MP.Env) (η' : VE), (f = .next e' ∨ f = .cont e') → RelE CT W2 h2 η' e' → (∃ m', m' < m ∧ I m' η' n2 s2') → ∃ k r, whileN t s1 k e h = some r ∧
              ((∃ a h' W' b n' s', r = .ok a h' ∧ Ex W h W' h' ∧ Rl CT W' n' s' h' ∧ RelG CT W' h' b a ∧ Q b n' s') ∨ (∃ c fs h' W' c' ds n' s', r = .exc c fs h' ∧ Ex W h W' h' ∧ Rl CT W' n' s' h' ∧ RelX CT W' h' c' ds c fs ∧ X c' ds n' s')) := fun e' η' hf r3 ⟨m', hm, hi'⟩ => by
              obtain ⟨k, rr, e3, z⟩ := ih m' hm W2 h2 η' e' n2 s2' r3 l2 hi'
              refine ⟨k + 1, rr, ?_, ?_⟩
              · unfold whileN
                rcases hf with rfl | rfl
                · simp only [e1, e2, if_true]; exact e3
                · simp only [e1, e2, if_true]; exact e3
              · rcases z with ⟨a, h', W', b, n', s', y1, y2, y3⟩ | ⟨a1, a2, h', W', c', ds, n', s', y1, y2, y3⟩
                · exact .inl ⟨a, h', W', b, n', s', y1, x1.trans (x2.trans y2), y3⟩
                · exact .inr ⟨a1, a2, h', W', c', ds, n', s', y1, x1.trans (x2.trans y2), y3⟩
            cases g with
            | next η' =>
              obtain ⟨e', rfl, r3⟩ := r2
              exact step e' η' (.inl rfl) r3 q2
            | cont η' =>
              obtain ⟨e', rfl, r3⟩ := r2
              exact step e' η' (.inr rfl) r3 q2
            | brk η' =>
              obtain ⟨e', rfl, r3⟩ := r2
              refine ⟨1, .ok (.next e') h2, ?_, .inl ⟨_, h2, W2, .next η', n2, s2', rfl, x1.trans x2, l2, ⟨e', rfl, r3⟩, q2⟩⟩
              unfold whileN
              simp only [e1, e2, if_true]
            | ret d =>
              obtain ⟨u, rfl, r3⟩ := r2
              refine ⟨1, .ok (.ret u) h2, ?_, .inl ⟨_, h2, W2, .ret d, n2, s2', rfl, x1.trans x2, l2, ⟨u, rfl, r3⟩, q2⟩⟩
              unfold whileN
              simp only [e1, e2, if_true]
          · refine ⟨1, .exc c fs h2, ?_, .inr ⟨c, fs, h2, W2, c', ds, n2, s2', rfl, x1.trans x2, l2, r2, q2⟩⟩
            unfold whileN
            simp only [e1, e2, if_true]
      · refine ⟨1, .exc c fs h1, ?_, .inr ⟨c, fs, h1, W1, c', ds, n1, s1', rfl, x1, l1, r1, q1⟩⟩
        unfold whileN
        simp only [e1]
  obtain ⟨k, rr, e1, z⟩ := key m W h η e n s r l i0
  rw [sWhile_is e1]
  exact z
end
/-! defs -/
theorem f_fn {N np : Nat} {s1 : SM} {z1 : SV} (hb : StS CT s1 z1) : FnS CT (fnM N np s1) (vfn N np z1) := fun W h ds us r => .req fun c => by
  unfold fnM
  rw [if_pos (by rw [r.len]; exact c)]
  exact .bnd (hb _ _ _ _ (.args _ r)) fun W1 h1 f g x1 r1 => by
    cases g with
    | next η =>
      obtain ⟨e, rfl, _⟩ := r1
      exact .ret rel_non
    | ret d =>
      obtain ⟨u, rfl, r2⟩ := r1
      exact .ret r2
    | brk η => exact Sm.bad
    | cont η => exact Sm.bad
end
end MV
/-! VF: new instances, what is forgotten, the pen, the law. -/
namespace MV
open PySem MP
section
variable {CT : CTab} {W W' W2 : Wd} {h h' h2 : VH} {n n' : Nat} {s t : DS}
mutual
theorem clo_of : ∀ (d : D) (u : U), RelV CT W h d u → clo W.ι.length d = true
  | .non, _, _ => by unfold clo; rfl
  | .bl _, _, _ => by unfold clo; rfl
  | .int _, _, _ => by unfold clo; rfl
  | .str _, _, _ => by unfold clo; rfl
  | .pen, _, _ => by unfold clo; rfl
  | .tup ds, u, e => by
    unfold RelV at e
    obtain ⟨us, _, e⟩ := e
    unfold clo
    exact clos_of ds us e
  | .lst ds, u, e => by
    unfold RelV at e
    obtain ⟨m, us, _, _, _, e⟩ := e
    unfold clo
    exact clos_of ds us e
  | .frz ds, u, e => by
    unfold RelV at e
    obtain ⟨m, us, _, _, _, e⟩ := e
    unfold clo
    exact clos_of ds us e
  | .obj c ds, u, e => by
    unfold RelV at e
    obtain ⟨m, us, _, _, _, _, e⟩ := e
    unfold clo
    exact clos_of ds _ e
  | .ref k, u, e => by
    unfold RelV at e
    obtain ⟨om, e, _⟩ := e
    unfold clo
    exact decide_eq_true (List.getElem?_eq_some_iff.mp e).1
theorem clos_of : ∀ (ds : List D) (us : List U), RelVs CT W h ds us → clos W.ι.length ds = true
  | [], _, _ => by unfold clos; rfl
  | d :: ds, us, e => by
    unfold RelVs at e
    obtain ⟨u, r, _, e2, e3⟩ := e
    unfold clos
    rw [clo_of d u e2, clos_of ds r e3]
    rfl
end
def Wd.cut (W : Wd) (k : Nat) : Wd := ⟨W.ι.take k, W.pens, W.lk.filter fun j => decide (j < k)⟩
theorem cut_at {k j : Nat} (hj : j < k) : (W.cut k).ι[j]? = W.ι[j]? := by
  show (W.ι.take k)[j]? = _
  rw [List.getElem?_take, if_pos hj]
theorem cut_inv {k j : Nat} {o : Option Nat} (e : (W.cut k).ι[j]? = some o) : j < k ∧ W.ι[j]? = some o := by
  have e' : (W.ι.take k)[j]? = some o := e
  rw [List.getElem?_take] at e'
  split at e'
  · exact ⟨‹_›, e'⟩
  · cases e'
theorem cut_fr {k m : Nat} (f : W.fr m) : (W.cut k).fr m := ⟨fun z => f.1 (List.mem_of_mem_take z), f.2⟩
mutual
theorem RelV.cut (k : Nat) : ∀ (d : D) (u : U), clo k d = true → RelV CT W h d u → RelV CT (W.cut k) h d u
  | .non, _, _, e => by unfold RelV at e ⊢; exact e
  | .bl _, _, _, e => by unfold RelV at e ⊢; exact e
  | .int _, _, _, e => by unfold RelV at e ⊢; exact e
  | .str _, _, _, e => by unfold RelV at e ⊢; exact e
  | .tup ds, u, c, e => by
    unfold clo at c
    unfold RelV at e ⊢
    obtain ⟨us, e1, e2⟩ := e
    exact ⟨us, e1, RelVs.cut k ds us c e2⟩
  | .lst ds, u, c, e => by
    unfold clo at c
    unfold RelV at e ⊢
    obtain ⟨m, us, e1, e2, e3, e4⟩ := e
    exact ⟨m, us, e1, e2, cut_fr e3, RelVs.cut k ds us c e4⟩
  | .frz ds, u, c, e => by
    unfold clo at c
    unfold RelV at e ⊢
    obtain ⟨m, us, e1, e2, e3, e4⟩ := e
    exact ⟨m, us, e1, e2, cut_fr e3, RelVs.cut k ds us c e4⟩
  | .obj cl ds, u, c, e => by
    unfold clo at c
    unfold RelV at e ⊢
    obtain ⟨m, fs, e1, e2, e3, e4, e5⟩ := e
    exact ⟨m, fs, e1, e2, cut_fr e3, e4, RelVs.cut k ds _ c e5⟩
  | .pen, u, c, e => by unfold RelV at e ⊢; exact e
  | .ref j, u, c, e => by
    unfold clo at c
    unfold RelV at e ⊢
    obtain ⟨om, e1, e2⟩ := e
    exact ⟨om, by rw [cut_at (of_decide_eq_true c)]; exact e1, e2⟩
theorem RelVs.cut (k : Nat) : ∀ (ds : List D) (us : List U), clos k ds = true → RelVs CT W h ds us → RelVs CT (W.cut k) h ds us
  | [], _, _, e => by unfold RelVs at e ⊢; exact e
  | d :: ds, us, c, e => by
    unfold clos at c
    rw [Bool.and_eq_true] at c
    unfold RelVs at e ⊢
    obtain ⟨u, r, e1, e2, e3⟩ := e
    exact ⟨u, r, e1, RelV.cut k d u c.1 e2, RelVs.cut k ds r c.2 e3⟩
end
theorem RelKs.cut (k : Nat) : ∀ {ds : List (D × D)} {us us0 : List (U × U)}, W'.ι.length = k → RelKs CT W' h' ds us0 → RelKs CT W h ds us → RelKs CT (W.cut k) h ds us
  | [], _, _, _, _, e => by unfold RelKs at e ⊢; exact e
  | d :: ds, us, us0, hk, e0, e => by
    unfold RelKs at e e0 ⊢
    obtain ⟨u, r, e1, e2, e3, e4⟩ := e
    obtain ⟨u0, r0, f1, f2, f3, f4⟩ := e0
    exact ⟨u, r, e1, RelV.cut k _ _ (by rw [← hk]; exact clo_of _ _ f2) e2, RelV.cut k _ _ (by rw [← hk]; exact clo_of _ _ f3) e3, RelKs.cut k hk f4 e4⟩
theorem RelO.cut {k : Nat} {o : DO} {vo vo0 : VO} (hk : W'.ι.length = k) (e0 : RelO CT W' h' o vo0) (e : RelO CT W h o vo) : RelO CT (W.cut k) h o vo := by
  cases o with
  | lst ds =>
    obtain ⟨us0, _, f2⟩ := e0
    obtain ⟨us, e1, e2⟩ := e
    exact ⟨us, e1, RelVs.cut k _ _ (by rw [← hk]; exact clos_of _ _ f2) e2⟩
  | dct ds =>
    obtain ⟨us0, _, f2⟩ := e0
    obtain ⟨us, e1, e2⟩ := e
    exact ⟨us, e1, RelKs.cut k hk f2 e2⟩
  | ins c ds =>
    obtain ⟨us0, _, _, f2⟩ := e0
    obtain ⟨us, e1, e2, e3⟩ := e
    exact ⟨us, e1, e2, RelVs.cut k _ _ (by rw [← hk]; exact clos_of _ _ f2) e3⟩
  | ded => exact e
  | lck ds =>
    obtain ⟨us0, _, f2⟩ := e0
    obtain ⟨us, e1, e2⟩ := e
    exact ⟨us, e1, RelVs.cut k _ _ (by rw [← hk]; exact clos_of _ _ f2) e2⟩
theorem Rl.cut (R : Rl CT W n s h) (x : Ex W h W2 h2) (R2 : Rl CT W2 n' (s ++ t) h2) : Rl CT (W2.cut s.length) n' s h2 ∧ Ex W h (W2.cut s.length) h2 := by
  have at1 : ∀ {k : Nat}, k < s.length → (s ++ t)[k]? = s[k]? := fun hk => List.getElem?_append_left hk
  have lt : ∀ {k : Nat}, k ∈ W.lk → k < s.length := fun hk => by
    obtain ⟨xs, e⟩ := R.lk _ hk
    exact (List.getElem?_eq_some_iff.mp e).1
  refine ⟨⟨?_, fun k j m e1 e2 => ?_, fun k m e => ?_, fun k e => ?_, R2.pen, fun k hk => ?_, R2.pdj⟩, ⟨⟨fun m o e f => ?_, fun k m e => ?_, fun k e => ?_, x.pens⟩, fun k hk => ?_⟩⟩
  rotate_right
  · obtain ⟨a, b⟩ := x.lk k hk
    exact ⟨List.mem_filter.mpr ⟨a, decide_eq_true (lt hk)⟩, fun m o e1 e2 => by rw [cut_at (lt hk)]; exact b m o e1 e2⟩
  · show (W2.ι.take s.length).length = _
    rw [List.length_take, R2.len, List.length_append]
    omega
  · exact R2.inj k j m (cut_inv e1).2 (cut_inv e2).2
  · obtain ⟨hk, e⟩ := cut_inv e
    obtain ⟨o, vo, e1, e2, e3, e4⟩ := R2.obj k m e
    rw [at1 hk] at e1
    refine ⟨o, vo, e1, e2, ?_, e4⟩
    have hk2 : k < W.ι.length := by rw [R.len]; exact hk
    cases e5 : W.ι[k] with
    | none =>
      have := x.dd k (by rw [List.getElem?_eq_getElem hk2, e5])
      rw [e] at this
      cases this
    | some m' =>
      obtain ⟨o0, vo0, f1, f2, f3, f4⟩ := R.obj k m' (by rw [List.getElem?_eq_getElem hk2, e5])
      rw [e1] at f1
      cases f1
      exact RelO.cut R.len f3 e3
  · obtain ⟨hk, e⟩ := cut_inv e
    have := R2.ded k e
    rw [at1 hk] at this
    exact this
  · obtain ⟨h1, h2⟩ := List.mem_filter.mp hk
    obtain ⟨xs, e⟩ := R2.lk k h1
    rw [at1 (of_decide_eq_true h2)] at e
    exact ⟨xs, e⟩
  · obtain ⟨a, b⟩ := x.fr m o e f
    exact ⟨a, cut_fr b⟩
  · have hk : k < s.length := by rw [← R.len]; exact (List.getElem?_eq_some_iff.mp e).1
    rw [cut_at hk]
    exact x.io k m e
  · have hk : k < s.length := by rw [← R.len]; exact (List.getElem?_eq_some_iff.mp e).1
    rw [cut_at hk]
    exact x.dd k e
theorem f_pure {f : List U → M U} {g : FV} (k : FnS CT f g) : FnS CT f (vpure g) := fun W h ds us r n s Q X l q => by
  rcases k W h ds us r n s _ _ l q with ⟨a, h2, W2, b, n2, s2, e, x, l2, r2, ⟨t, rfl, c, q2⟩⟩ | ⟨c, fs, h2, W2, c', vs, n2, s2, e, x, l2, ⟨r1, r2, r3⟩, ⟨t, rfl, cc, q2⟩⟩
  · obtain ⟨l3, x3⟩ := l.cut x l2
    exact .inl ⟨a, h2, _, b, n2, s, e, x3, l3, RelV.cut _ _ _ c r2, q2⟩
  · obtain ⟨l3, x3⟩ := l.cut x l2
    exact .inr ⟨c, fs, h2, _, c', vs, n2, s, e, x3, l3, ⟨r1, r2, RelVs.cut _ _ _ cc r3⟩, q2⟩
theorem mk_new {c : Nat} (R : Rl CT W n s h) : Rl CT (W.add h.length) n (s ++ [.ins c []]) (h ++ [.ins (CT c).1 []]) := R.add ⟨[], rfl, ⟨rfl, Nat.zero_le _⟩, .nil⟩
theorem add_ref (R : Rl CT W n s h) : RelV CT (W.add h.length) h' (.ref s.length) (.ref h.length) := by
  unfold RelV
  refine ⟨some h.length, ?_, fun m z => by cases z; rfl⟩
  rw [← R.len]
  exact add_new
theorem mkU_is {c : Str} {ini : List U → M U} {us : List U} {h h2 : VH} (e : ini (.ref h.length :: us) (h ++ [.ins c []]) = .ok .non h2) : mkU c ini us h = .ok (.ref h.length) h2 := by
  unfold mkU MP.bnd
  rw [e]
  rfl
theorem mkU_exc {c : Str} {ini : List U → M U} {us : List U} {h h2 : VH} {d : Str} {fs : Fs} (e : ini (.ref h.length :: us) (h ++ [.ins c []]) = .exc d fs h2) : mkU c ini us h = .exc d fs h2 := by
  unfold mkU MP.bnd
  rw [e]
theorem live_new (R : Rl CT W n s h) {vo : VO} {h1 : VH} (x : Ex (W.add h.length) h1 W2 h2) (R2 : Rl CT W2 n' t h2) {o : DO} (e : t[s.length]? = some o) (ho : o ≠ .ded) : W2.ι[s.length]? = some (some h.length) := by
  have a : (W.add h.length).ι[s.length]? = some (some h.length) := by rw [← R.len]; exact add_new
  rcases x.io _ _ a with z | z
  · exact z
  · have := R2.ded _ z
    rw [e] at this
    exact absurd (Option.some.inj this) ho
theorem f_mk {c : Nat} {ini : List U → M U} {iv : FV} (k : FnS CT ini iv) : FnS CT (mkU (CT c).1 ini) (vmk c iv) := fun W h ds us r n s Q X l q => by
  rw [vmk_eq] at q
  have x0 : Ex W h (W.add h.length) (h ++ [.ins (CT c).1 []]) := .add l
  rcases k _ _ _ _ (.cons (add_ref (h' := h ++ [.ins (CT c).1 []]) l) (RelVs.ex x0 _ _ r)) n _ _ _ (mk_new l) q with ⟨a, h2, W2, b, n2, s2, e, x, l2, r2, ⟨rfl, vs, rfl, cc, q2⟩⟩ | ⟨d, fs, h2, W2, c', vs, n2, s2, e, x, l2, ⟨r1, r2, r3⟩, ⟨o, rfl, cc, q2⟩⟩
  · unfold RelV at r2
    subst r2
    obtain ⟨l3, x3⟩ := l.cut (x0.trans x) l2
    have hl := live_new (vo := .frz []) l x l2 (o := .ins c vs) (by simp) (fun z => nomatch z)
    obtain ⟨o, vo, f1, f2, f3, f4⟩ := l2.obj _ _ hl
    have f1' : some (DO.ins c vs) = some o := by rw [← f1]; simp
    cases f1'
    obtain ⟨fs, rfl, g2, g3⟩ := f3
    refine .inl ⟨_, h2, _, .obj c vs, n2, s, mkU_is e, x3, l3, ?_, q2⟩
    unfold RelV
    refine ⟨_, fs, rfl, f2, ⟨fun z => ?_, f4⟩, g2, RelVs.cut _ _ _ cc g3⟩
    obtain ⟨j, hj⟩ := List.getElem?_of_mem z
    obtain ⟨j1, j2⟩ := cut_inv hj
    have := l2.inj _ _ _ j2 hl
    omega
  · obtain ⟨l3, x3⟩ := l.cut (x0.trans x) l2
    exact .inr ⟨d, fs, h2, _, c', vs, n2, s, mkU_exc e, x3, l3, ⟨r1, r2, RelVs.cut _ _ _ cc r3⟩, q2⟩
theorem f_mkM {c : Nat} {ini : List U → M U} {iv : FV} (k : FnS CT ini iv) : FnS CT (mkU (CT c).1 ini) (vmkM c iv) := fun W h ds us r n s Q X l q => by
  have x0 : Ex W h (W.add h.length) (h ++ [.ins (CT c).1 []]) := .add l
  rcases k _ _ _ _ (.cons (add_ref (h' := h ++ [.ins (CT c).1 []]) l) (RelVs.ex x0 _ _ r)) n _ _ _ (mk_new l) q with ⟨a, h2, W2, b, n2, s2, e, x, l2, r2, ⟨rfl, ⟨o, ho, hd⟩, q2⟩⟩ | ⟨d, fs, h2, W2, c', vs, n2, s2, e, x, l2, r2, q2⟩
  · unfold RelV at r2
    subst r2
    refine .inl ⟨_, h2, W2, .ref s.length, n2, s2, mkU_is e, x0.trans x, l2, ?_, q2⟩
    unfold RelV
    exact ⟨_, live_new (vo := .frz []) l x l2 ho hd, fun m z => by cases z; rfl⟩
  · exact .inr ⟨d, fs, h2, W2, c', vs, n2, s2, mkU_exc e, x0.trans x, l2, r2, q2⟩
/-- the pen -/
theorem e_pen {i : Nat} : EvS CT (xLst [xOr (xB listF [xV i]) (xLst [xC (.int 0)]), xC (.int 0)]) (ypen i) := fun W h η e r => by
  unfold ypen
  cases e1 : getE η i with
  | none => exact Sm.bad
  | some d =>
    cases d <;> first | exact Sm.bad | skip
    obtain ⟨u, f1, f2⟩ := r.get e1
    unfold RelV at f2
    obtain ⟨m, us, rfl, e2, e3, e4⟩ := f2
    intro n s Q X l q
    obtain ⟨⟨ns, rfl⟩, q⟩ := q
    have e5 := ints_rel e4
    subst e5
    have hV : xV i e h = .ok (.ref m) h := by unfold xV; rw [f1]; rfl
    have at_old : ∀ {t : VH} {m : Nat} {o : VO}, h[m]? = some o → (h ++ t)[m]? = some o := fun {t m o} e => by rw [List.getElem?_append_left (List.getElem?_eq_some_iff.mp e).1]; exact e
    have key : ∀ (t : VH) (c : Nat) (cells : List Int), h.length ≤ c → (h ++ t)[c]? = some (.lst (cells.map .int)) → cells ≠ [] →
        xLst [xOr (xB listF [xV i]) (xLst [xC (.int 0)]), xC (.int 0)] e h = .ok (.ref (h ++ t).length) ((h ++ t) ++ [.lst [.ref c, .int 0]]) →
        ∃ a h' W' b n' s', xLst [xOr (xB listF [xV i]) (xLst [xC (.int 0)]), xC (.int 0)] e h = .ok a h' ∧ Ex W h W' h' ∧ Rl CT W' n' s' h' ∧ RelV CT W' h' b a ∧ Q b n' s' := fun t c cells hc hcc hne he => by
      have hc1 : c < (h ++ t).length := (List.getElem?_eq_some_iff.mp hcc).1
      have hl : h.length ≤ (h ++ t).length := by rw [List.length_append]; omega
      generalize hp : (h ++ t).length = p at hc1 hl he
      have npn : ∀ m, m < h.length → ¬ W.pn m → ¬ (⟨W.ι, (p, c) :: W.pens, W.lk⟩ : Wd).pn m := fun m hm hp ⟨q, hq, hz⟩ => by
        rcases List.mem_cons.mp hq with rfl | hq
        · rcases hz with hz | hz
          · have hz' : m = p := hz
            omega
          · have hz' : m = c := hz
            omega
        · exact hp ⟨q, hq, hz⟩
      have x2 : Ex W h ⟨W.ι, (p, c) :: W.pens, W.lk⟩ ((h ++ t) ++ [.lst [.ref c, .int 0]]) := ⟨⟨fun m o e f => ⟨at_push (at_old e), f.1, npn m (List.getElem?_eq_some_iff.mp e).1 f.2⟩, fun k m e => .inl e, fun k e => e, fun q hq => List.mem_cons_of_mem _ hq⟩, fun _ hk => ⟨hk, fun _ _ e1 e2 => ⟨e1, at_push (at_old e2)⟩⟩⟩
      refine ⟨_, _, ⟨W.ι, (p, c) :: W.pens, W.lk⟩, .pen, n, s, he, x2, ⟨l.len, l.inj, fun k m e => ?_, l.ded, fun q hq => ?_, l.lk, fun q hq q' hq' hne => ?_⟩, ?_, q⟩
      · obtain ⟨o, vo, y1, y2, y3, y4⟩ := l.obj k m e
        exact ⟨o, vo, y1, at_push (at_old y2), y3.ex x2, npn m (List.getElem?_eq_some_iff.mp y2).1 y4⟩
      · rcases List.mem_cons.mp hq with rfl | hq
        · refine ⟨0, cells, ?_, at_push hcc, ?_, Nat.zero_le _, hne⟩
          · show ((h ++ t) ++ _)[p]? = _
            rw [← hp]
            exact at_new
          · show p ≠ c
            omega
        · obtain ⟨sp, ce, a1, a2, a3, a4, a5⟩ := l.pen q hq
          exact ⟨sp, ce, at_push (at_old a1), at_push (at_old a2), a3, a4, a5⟩
      · have lt : ∀ q ∈ W.pens, q.1 < h.length ∧ q.2 < h.length := fun q hq => ⟨l.ltp ⟨q, hq, .inl rfl⟩, l.ltp ⟨q, hq, .inr rfl⟩⟩
        rcases List.mem_cons.mp hq with rfl | hq
        · rcases List.mem_cons.mp hq' with rfl | hq'
          · exact absurd rfl hne
          · obtain ⟨a, b⟩ := lt q' hq'
            exact ⟨by show p ≠ _; omega, by show p ≠ _; omega, by show c ≠ _; omega, by show c ≠ _; omega⟩
        · rcases List.mem_cons.mp hq' with rfl | hq'
          · obtain ⟨a, b⟩ := lt q hq
            exact ⟨by show _ ≠ p; omega, by show _ ≠ c; omega, by show _ ≠ p; omega, by show _ ≠ c; omega⟩
          · exact l.pdj q hq q' hq' hne
      · unfold RelV
        exact ⟨_, List.mem_cons_self, rfl⟩
    have hL : xB listF [xV i] e h = .ok (.ref h.length) (h ++ [.lst (ns.map .int)]) := by
      show MP.bnd (MP.bnd (xV i e) fun u => MP.bnd (mret []) fun us => mret (u :: us)) listF h = _
      unfold MP.bnd
      rw [hV]
      simp only [mret]
      unfold listF
      simp only [seqOf, lstOf_frz e2]
      rfl
    refine .inl ?_
    cases ns with
    | cons z ns =>
      refine key [.lst ((z :: ns).map .int)] h.length (z :: ns) (Nat.le_refl _) at_new (fun z => nomatch z) ?_
      show MP.bnd (MP.bnd (xOr (xB listF [xV i]) (xLst [xC (.int 0)]) e) fun u => _) _ h = _
      have : xOr (xB listF [xV i]) (xLst [xC (.int 0)]) e h = .ok (.ref h.length) (h ++ [.lst ((z :: ns).map .int)]) := by
        unfold xOr MP.bnd
        rw [hL]
        simp only [truB, at_new]
        rfl
      unfold MP.bnd
      rw [this]
      rfl
    | nil =>
      refine key [.lst [], .lst [.int 0]] (h.length + 1) [0] (Nat.le_succ _) (by simp) (fun z => nomatch z) ?_
      show MP.bnd (MP.bnd (xOr (xB listF [xV i]) (xLst [xC (.int 0)]) e) fun u => _) _ h = _
      have : xOr (xB listF [xV i]) (xLst [xC (.int 0)]) e h = .ok (.ref (h.length + 1)) (h ++ [.lst [], .lst [.int 0]]) := by
        unfold xOr MP.bnd
        rw [hL]
        simp only [truB, at_new, List.map_nil]
        show xLst [xC (.int 0)] e (h ++ [.lst []]) = _
        show Res.ok (U.ref (h ++ [VO.lst []]).length) ((h ++ [VO.lst []]) ++ [VO.lst [.int 0]]) = _
        simp
      unfold MP.bnd
      rw [this]
      rfl
end
/-- the law, from its wish -/
theorem law_pure {CT : CTab} {f : List U → M U} {v : FV} (k : FnS CT f v) (p : ∀ ns : List Int, ns.length ≤ 63 → v [.frz (ns.map .int)] (fun r _ _ => r = .bl true) (fun _ _ _ _ => False) 0 []) (ns : List Int) (hl : ns.length ≤ 63) : ∃ h', f [.ref 0] [.frz (ns.map U.int)] = .ok (.bl true) h' := by
  have l : Rl CT ⟨[], [], []⟩ 0 [] [.frz (ns.map U.int)] := ⟨rfl, (fun k j m e => by simp at e), (fun k m e => by simp at e), (fun k e => by simp at e), (fun q hq => nomatch hq), (fun k hk => nomatch hk), (fun q hq => nomatch hq)⟩
  have fr0 : (⟨[], [], []⟩ : Wd).fr 0 := ⟨(fun z => nomatch z), (fun ⟨q, hq, _⟩ => nomatch hq)⟩
  have r : RelV CT ⟨[], [], []⟩ [.frz (ns.map U.int)] (.frz (ns.map .int)) (.ref 0) := by
    unfold RelV
    exact ⟨0, _, rfl, rfl, fr0, rels_int ns⟩
  rcases k _ _ _ _ (.one r) 0 [] _ _ l (p ns hl) with ⟨a, h', W', b, n', s', e, _, _, r2, rfl⟩ | ⟨_, _, _, _, _, _, _, _, _, _, _, _, z⟩
  · unfold RelV at r2
    subst r2
    exact ⟨h', e⟩
  · exact z.elim
end MV
/-! VG: what the printed texts lean on. -/
namespace MV
open PySem MP
section
variable {CT : CTab} {G : Str → Str → List U → M U} {m : Str} {cs : List Str} {tbl : List (Nat × FV)} {c : Nat} {g : FV}
theorem mt_nil : MtOk CT G m cs [] := fun p hp => nomatch hp
theorem mt_cons (h : FnS CT (G (CT c).1 m) g) (h1 : (CT c).1 ∈ cs) (h2 : m ∉ (CT c).2) (r : MtOk CT G m cs tbl) : MtOk CT G m cs ((c, g) :: tbl) := fun p hp => by
  rcases List.mem_cons.mp hp with rfl | hp
  · exact ⟨h, h1, h2⟩
  · exact r p hp
end
section
variable {T : Tab} {fs : List (Str × Df)} {ms : List ((Str × Str) × Df)} {CT : CTab} {b : SM} {d : Nat} {D : Df} {g : FV}
theorem fn_eq {x : Str} (h : fs.lookup x = some D) (e : compSs T (gm T fs ms d) D.N fuel (L2.defScope D.st) (L2.defBody D.st) = b) (k : FnS CT (fnM D.N.length D.np b) g) : FnS CT ((gm T fs ms (d + 1)).fn x) g := by
  have : (gm T fs ms (d + 1)).fn x = fnM D.N.length D.np b := by
    funext us
    show runD T (gm T fs ms d) (fs.lookup x) us = _
    rw [h]
    show fnM D.N.length D.np (compSs T (gm T fs ms d) D.N fuel (L2.defScope D.st) (L2.defBody D.st)) us = _
    rw [e]
  rw [this]
  exact k
theorem mt_eq {c x : Str} (h : ms.lookup (c, x) = some D) (e : compSs T (gm T fs ms d) D.N fuel (L2.defScope D.st) (L2.defBody D.st) = b) (k : FnS CT (fnM D.N.length D.np b) g) : FnS CT ((gm T fs ms (d + 1)).meth c x) g := by
  have : (gm T fs ms (d + 1)).meth c x = fnM D.N.length D.np b := by
    funext us
    show runD T (gm T fs ms d) (ms.lookup (c, x)) us = _
    rw [h]
    show fnM D.N.length D.np (compSs T (gm T fs ms d) D.N fuel (L2.defScope D.st) (L2.defBody D.st)) us = _
    rw [e]
  rw [this]
  exact k
theorem fn_zero {x : Str} : FnS CT ((gm T fs ms 0).fn x) (fun _ => vbad) := fun W h ds us r => Sm.bad
theorem mt_zero {c x : Str} : FnS CT ((gm T fs ms 0).meth c x) (fun _ => vbad) := fun W h ds us r => Sm.bad
end
end MV
/-! VH: == by a class's own def; lists that change are lent to a call as values. -/
namespace MV
open PySem MP

def ownArg (g : FV) (c : Nat) (ws : List D) (e : D) : VM D := match e with
  | .tup xs => vnoX (g [.obj c ws, .tup xs])
  | .lst xs => vnoX (g [.obj c ws, .lst xs])
  | .obj c2 vs => if c2 = c then vnoX (g [.obj c ws, .obj c2 vs]) else vbad
  | _ => vbad
/-- == where the left one's class may have its own -/
def vown (tbl : List (Nat × FV)) : V2 := fun d e => match d with
  | .obj c ws => vbnd (ofOp (lk tbl c)) fun g => ownArg g c ws e
  | .ref _ => vbad
  | .pen => vbad
  | d => veq d e
section
variable {CT : CTab} {G : Str → Str → List U → M U} {cs : List Str} {tbl : List (Nat × FV)}
theorem s_own (ok : MtOk CT G "__eq__" cs tbl) : OpS CT (eqM G cs) (vown tbl) := fun W h d e u v r1 r2 => by
  have old : (eqM G cs u v h = eqO u v h) → Sm CT (RelV CT) W h (eqM G cs u v) (veq d e) := fun q => .of_eq q (s_eq W h d e u v r1 r2)
  cases d with
  | ref k => exact Sm.bad
  | pen => exact Sm.bad
  | obj c ws =>
    have r1' := r1
    unfold RelV at r1'
    obtain ⟨j, fs, rfl, hj, _, nm, _⟩ := r1'
    show Sm CT (RelV CT) W h (eqM G cs (.ref j) v) (vbnd (ofOp (lk tbl c)) fun g => ownArg g c ws e)
    cases hg : lk tbl c with
    | none => exact Sm.bad
    | some g =>
      obtain ⟨o1, o2, o3⟩ := ok _ (lk_mem hg)
      have fin : Sm CT (RelV CT) W h (MP.noX (G (CT c).1 "__eq__" [.ref j, v])) (vnoX (g [.obj c ws, e])) := .noX (o1 _ _ _ _ (.cons r1 (.cons r2 .nil)))
      show Sm CT (RelV CT) W h (eqM G cs (.ref j) v) (ownArg g c ws e)
      unfold ownArg
      clear old
      cases e with
      | tup xs =>
        unfold RelV at r2
        obtain ⟨us, rfl, _⟩ := r2
        refine .of_eq ?_ fin
        unfold eqM
        simp only [hj, if_pos o2]
      | lst xs =>
        unfold RelV at r2
        obtain ⟨m, us, rfl, hm, _⟩ := r2
        refine .of_eq ?_ fin
        unfold eqM
        simp only [hj, hm, if_pos o2]
      | obj c2 vs =>
        by_cases hc : c2 = c
        · subst hc
          simp only [if_pos rfl, if_true]
          unfold RelV at r2
          obtain ⟨m, us, rfl, hm, _⟩ := r2
          refine .of_eq ?_ fin
          unfold eqM
          simp only [hj, hm, if_pos o2]
          simp
        · simp only [if_neg hc]
          exact Sm.bad
      | _ => exact Sm.bad
  | lst xs =>
    refine old ?_
    unfold RelV at r1
    obtain ⟨m, us, rfl, hm, _⟩ := r1
    unfold eqM
    simp only [hm]
  | frz xs =>
    refine old ?_
    unfold RelV at r1
    obtain ⟨m, us, rfl, hm, _⟩ := r1
    unfold eqM
    simp only [hm]
  | tup xs =>
    refine old ?_
    unfold RelV at r1
    obtain ⟨us, rfl, _⟩ := r1
    rfl
  | _ =>
    refine old ?_
    unfold RelV at r1
    subst r1
    rfl
end
/-! lists that change, lent as values -/
def lend0 (s : DS) (d : D) : D := match d with
  | .ref k => match s[k]? with
    | some (.lst xs) => .lst xs
    | _ => .ref k
  | d => d
def lend1 (s : DS) (d : D) : D := match d with
  | .ref k => match s[k]? with
    | some (.lst xs) => .lst (xs.map (lend0 s))
    | _ => .ref k
  | d => d
mutual
/-- no list and nothing that changes -/
def noL : D → Bool
  | .tup xs => noLs xs
  | .frz xs => noLs xs
  | .obj _ xs => noLs xs
  | .lst _ => false
  | .ref _ => false
  | _ => true
def noLs : List D → Bool
  | [] => true
  | x :: xs => noL x && noLs xs
end
def AllL (s : DS) : Prop := ∀ o ∈ s, o = .ded ∨ ∃ xs, o = .lst xs
def dead (s : DS) : DS := s.map fun _ => .ded
/-- a call that sees the lists as values, and keeps none of them -/
@[irreducible] def vlend (f : FV) : FV := fun ds Q _ n s => AllL s ∧ f (ds.map (lend1 s)) (fun r n' s' => s' = dead s ∧ noL r = true ∧ Q r n' s) (fun _ _ _ _ => False) n (dead s)
theorem vlend_eq {f : FV} {ds : List D} {Q : D → Nat → DS → Prop} {X : XQ} {n : Nat} {s : DS} : vlend f ds Q X n s = (AllL s ∧ f (ds.map (lend1 s)) (fun r n' s' => s' = dead s ∧ noL r = true ∧ Q r n' s) (fun _ _ _ _ => False) n (dead s)) := by unfold vlend; rfl
section
variable {CT : CTab} {W W2 : Wd} {h h2 : VH} {n n2 : Nat} {s : DS}
def Wd.none (W : Wd) : Wd := ⟨W.ι.map fun _ => Option.none, W.pens, []⟩
theorem none_at {k : Nat} {o : Option Nat} (e : W.none.ι[k]? = some o) : o = Option.none := by
  have e : (W.ι.map fun _ => (Option.none : Option Nat))[k]? = some o := e
  rw [List.getElem?_map] at e
  cases z : W.ι[k]? with
  | none => rw [z] at e; cases e
  | some _ => rw [z] at e; cases e; rfl
theorem none_no {m : Nat} : ¬ some m ∈ W.none.ι := fun z => by
  obtain ⟨k, hk⟩ := List.getElem?_of_mem z
  have := none_at hk
  cases this
theorem lk_nil (R : Rl CT W n s h) (a : AllL s) {k : Nat} (hk : k ∈ W.lk) : False := by
  obtain ⟨xs, e⟩ := R.lk k hk
  rcases a _ (List.mem_of_getElem? e) with z | ⟨_, z⟩ <;> cases z
theorem none_ex (R : Rl CT W n s h) (a : AllL s) : Ex W h W.none h := ⟨⟨fun m o e f => ⟨e, none_no, f.2⟩, fun k m e => .inr (by
    show (W.ι.map fun _ => (Option.none : Option Nat))[k]? = _
    rw [List.getElem?_map, e]; rfl), fun k e => by
    show (W.ι.map fun _ => (Option.none : Option Nat))[k]? = _
    rw [List.getElem?_map, e]; rfl, fun q e => e⟩, fun k hk => (lk_nil R a hk).elim⟩
theorem none_rl (R : Rl CT W n s h) : Rl CT W.none n (dead s) h := by
  refine ⟨?_, fun k j m e _ => ?_, fun k m e => ?_, fun k e => ?_, R.pen, fun k hk => (nomatch hk), R.pdj⟩
  · show (W.ι.map _).length = (s.map _).length
    rw [List.length_map, List.length_map, R.len]
  · cases none_at e
  · cases none_at e
  · have hk : k < (W.ι.map fun _ => (Option.none : Option Nat)).length := (List.getElem?_eq_some_iff.mp e).1
    rw [List.length_map, R.len] at hk
    unfold dead
    rw [List.getElem?_map, List.getElem?_eq_getElem hk]
    rfl
theorem at_lst (R : Rl CT W n s h) {k : Nat} {xs : List D} {u : U} (r : RelV CT W h (.ref k) u) (e : s[k]? = some (.lst xs)) : ∃ m us, u = .ref m ∧ h[m]? = some (.lst us) ∧ ¬ W.pn m ∧ RelVs CT W h xs us := by
  unfold RelV at r
  obtain ⟨om, e1, e2⟩ := r
  cases om with
  | none =>
    have := R.ded _ e1
    rw [e] at this
    cases this
  | some m =>
    obtain ⟨o, vo, f1, f2, f3, f4⟩ := R.obj _ _ e1
    rw [e] at f1
    cases f1
    obtain ⟨us, rfl, g⟩ := f3
    exact ⟨m, us, e2 m rfl, f2, f4, g⟩
theorem lend0_rel (R : Rl CT W n s h) (a : AllL s) {d : D} {u : U} (r : RelV CT W h d u) : RelV CT W.none h (lend0 s d) u := by
  have old := RelV.ex0 (none_ex R a).toEx0 d u r
  cases d with
  | ref k =>
    unfold lend0
    cases e : s[k]? with
    | none => simp only [e]; exact old
    | some o =>
      cases o with
      | lst xs =>
        obtain ⟨m, us, e1, e2, e3, e4⟩ := at_lst R r e
        simp only [e]
        unfold RelV
        exact ⟨m, us, e1, e2, ⟨none_no, e3⟩, RelVs.ex0 (none_ex R a).toEx0 _ _ e4⟩
      | _ => simp only [e]; exact old
  | _ => exact old
theorem map_rel {f : D → D} (hf : ∀ d u, RelV CT W h d u → RelV CT W2 h2 (f d) u) : ∀ {ds : List D} {us : List U}, RelVs CT W h ds us → RelVs CT W2 h2 (ds.map f) us
  | [], us, r => by
    unfold RelVs at r
    subst r
    exact .nil
  | d :: ds, us, r => by
    obtain ⟨u, q, rfl, r1, r2⟩ := r.uncons
    exact .cons (hf d u r1) (map_rel hf r2)
theorem lend1_rel (R : Rl CT W n s h) (a : AllL s) {d : D} {u : U} (r : RelV CT W h d u) : RelV CT W.none h (lend1 s d) u := by
  have old := RelV.ex0 (none_ex R a).toEx0 d u r
  cases d with
  | ref k =>
    unfold lend1
    cases e : s[k]? with
    | none => simp only [e]; exact old
    | some o =>
      cases o with
      | lst xs =>
        obtain ⟨m, us, e1, e2, e3, e4⟩ := at_lst R r e
        simp only [e]
        unfold RelV
        exact ⟨m, us, e1, e2, ⟨none_no, e3⟩, map_rel (fun d u => lend0_rel R a) e4⟩
      | _ => simp only [e]; exact old
  | _ => exact old
/-- the world as it was, with what the call has made -/
def Wd.back (W W2 : Wd) : Wd := ⟨W.ι, W2.pens, W.lk⟩
theorem mem_at {m : Nat} (e : some m ∈ W.ι) : ∃ k : Nat, W.ι[k]? = some (some m) := List.getElem?_of_mem e
theorem kept (R : Rl CT W n s h) (x : Ex W.none h W2 h2) {k m : Nat} (e : W.ι[k]? = some (some m)) : ∃ o vo, s[k]? = some o ∧ h2[m]? = some vo ∧ RelO CT W h o vo ∧ ¬ W2.pn m := by
  obtain ⟨o, vo, f1, f2, f3, f4⟩ := R.obj _ _ e
  obtain ⟨g1, g2⟩ := x.fr m vo f2 ⟨none_no, f4⟩
  exact ⟨o, vo, f1, g1, f3, g2.2⟩
theorem back_ex (R : Rl CT W n s h) (a : AllL s) (x : Ex W.none h W2 h2) : Ex W h (W.back W2) h2 := ⟨⟨fun m o e f => by
    obtain ⟨g1, g2⟩ := x.fr m o e ⟨none_no, f.2⟩
    exact ⟨g1, f.1, g2.2⟩, fun k m e => .inl e, fun k e => e, fun q e => x.pens q e⟩, fun k hk => (lk_nil R a hk).elim⟩
theorem back_rl (R : Rl CT W n s h) (a : AllL s) (x : Ex W.none h W2 h2) {t : DS} (R2 : Rl CT W2 n2 t h2) : Rl CT (W.back W2) n2 s h2 := by
  refine ⟨R.len, R.inj, fun k m e => ?_, R.ded, R2.pen, fun k hk => (lk_nil R a hk).elim, R2.pdj⟩
  obtain ⟨o, vo, f1, f2, f3, f4⟩ := kept R x e
  exact ⟨o, vo, f1, f2, RelO.ex0 (back_ex R a x).toEx0 f3, f4⟩
theorem back_fr (R : Rl CT W n s h) (a : AllL s) (x : Ex W.none h W2 h2) {m : Nat} {vo : VO} (e : h2[m]? = some vo) (hn : ∀ us, vo ≠ .lst us) (f : W2.fr m) : (W.back W2).fr m := by
  refine ⟨fun z => ?_, f.2⟩
  obtain ⟨k, hk⟩ := mem_at (W := W) z
  obtain ⟨o, vo2, f1, f2, f3, f4⟩ := kept R x hk
  rw [e] at f2
  cases f2
  rcases a _ (List.mem_of_getElem? f1) with rfl | ⟨xs, rfl⟩
  · exact f3
  · obtain ⟨us, rfl, _⟩ := f3
    exact hn us rfl
mutual
theorem back_rel (R : Rl CT W n s h) (a : AllL s) (x : Ex W.none h W2 h2) : ∀ (d : D) (u : U), noL d = true → RelV CT W2 h2 d u → RelV CT (W.back W2) h2 d u
  | .non, _, _, e => by unfold RelV at e ⊢; exact e
  | .bl _, _, _, e => by unfold RelV at e ⊢; exact e
  | .int _, _, _, e => by unfold RelV at e ⊢; exact e
  | .str _, _, _, e => by unfold RelV at e ⊢; exact e
  | .tup ds, u, c, e => by
    unfold noL at c
    unfold RelV at e ⊢
    obtain ⟨us, e1, e2⟩ := e
    exact ⟨us, e1, back_rels R a x ds us c e2⟩
  | .lst ds, u, c, e => by unfold noL at c; cases c
  | .frz ds, u, c, e => by
    unfold noL at c
    unfold RelV at e ⊢
    obtain ⟨m, us, e1, e2, e3, e4⟩ := e
    exact ⟨m, us, e1, e2, back_fr R a x e2 (fun _ z => nomatch z) e3, back_rels R a x ds us c e4⟩
  | .obj k ds, u, c, e => by
    unfold noL at c
    unfold RelV at e ⊢
    obtain ⟨m, fs, e1, e2, e3, e4, e5⟩ := e
    exact ⟨m, fs, e1, e2, back_fr R a x e2 (fun _ z => nomatch z) e3, e4, back_rels R a x ds _ c e5⟩
  | .pen, u, c, e => by unfold RelV at e ⊢; exact e
  | .ref _, u, c, e => by unfold noL at c; cases c
theorem back_rels (R : Rl CT W n s h) (a : AllL s) (x : Ex W.none h W2 h2) : ∀ (ds : List D) (us : List U), noLs ds = true → RelVs CT W2 h2 ds us → RelVs CT (W.back W2) h2 ds us
  | [], us, _, e => by unfold RelVs at e ⊢; exact e
  | d :: ds, us, c, e => by
    unfold noLs at c
    obtain ⟨c1, c2⟩ := Bool.and_eq_true_iff.mp c
    unfold RelVs at e ⊢
    obtain ⟨u, r, e1, e2, e3⟩ := e
    exact ⟨u, r, e1, back_rel R a x d u c1 e2, back_rels R a x ds r c2 e3⟩
end
theorem f_lend {f : List U → M U} {g : FV} (k : FnS CT f g) : FnS CT f (vlend g) := fun W h ds us r n s Q X l q => by
  rw [vlend_eq] at q
  obtain ⟨a, q⟩ := q
  rcases k _ _ _ _ (map_rel (fun d u => lend1_rel l a) r) n _ _ _ (none_rl l) q with ⟨v, h2, W2, b, n2, s2, e, x, l2, r2, ⟨rfl, c, q2⟩⟩ | ⟨_, _, _, _, _, _, _, _, _, _, _, _, z⟩
  · exact .inl ⟨v, h2, W.back W2, b, n2, s, e, back_ex l a x, back_rl l a x l2, back_rel l a x _ _ c r2, q2⟩
  · exact z.elim
end
end MV
/-! VI: dicts with int keys. -/
namespace MV
open PySem MP

abbrev KVs := List (Int × D)
def iput (i : Int) (v : D) : KVs → KVs
  | [] => [(i, v)]
  | p :: r => if p.1 = i then (p.1, v) :: r else p :: iput i v r
def dk (p : Int × D) : D × D := (.int p.1, p.2)
def lkI (i : Int) : List (D × D) → Option D
  | [] => none
  | (.int j, v) :: r => if j = i then some v else lkI i r
  | _ => none
/-- d[i] of a dict -/
def vgetD : V2 := fun o i => match o, i with
  | .ref k, .int j => fun Q _ n s => ∃ kvs v, s[k]? = some (.dct kvs) ∧ lkI j kvs = some v ∧ Q v n s
  | _, _ => vbad
def vcomp2 (tg : GV) (t : TV) (k e : EV) (u : D) (η : VE) : VM (Option (D × D)) := vnoX (vbnd (tg u η) fun η' => vbnd (t η') fun c => vcase c (vbnd (k η') fun a => vbnd (e η') fun v => vret (some (a, v))) (vret none))
def dstep (o : Option (D × D)) (acc : KVs) (K : KVs → VM KVs) : VM KVs := match o with
  | none => K acc
  | some (.int i, v) => K (iput i v acc)
  | _ => vbad
def vcompDL (tg : GV) (t : TV) (k e : EV) : List D → VE → KVs → VM KVs
  | [], _, acc => vret acc
  | u :: us, η, acc => vbnd (vcomp2 tg t k e u η) fun o => dstep o acc fun acc => vcompDL tg t k e us η acc
@[irreducible] def vcompDI (tg : GV) (t : TV) (k e : EV) (us : List D) (η : VE) : VM KVs := vcompDL tg t k e us η []
theorem vcompDI_eq {tg : GV} {t : TV} {k e : EV} {us : List D} {η : VE} : vcompDI tg t k e us η = vcompDL tg t k e us η [] := by unfold vcompDI; rfl
def vnewD (acc : KVs) : VM D := fun Q _ n s => Q (.ref s.length) n (s ++ [.dct (acc.map dk)])
def yDc (it : VE → VM VI) (tg : Tg) (t : TV) (k e : EV) : EV := fun η => vbnd (it η) fun I => vreq (I.us.length ≤ sizeLine) (vbnd (vhold I.w (vcompDI (tgV tg) t k e I.us η)) vnewD)
section
variable {CT : CTab} {W : Wd} {h : VH}
def RelI' (CT : CTab) (W : Wd) (h : VH) (acc : KVs) (us : List (U × U)) : Prop := RelKs CT W h (acc.map dk) us
theorem rel_nil' : RelI' CT W h [] [] := by
  unfold RelI'
  rw [List.map_nil]
  unfold RelKs
  rfl
theorem rel_put {i : Int} {v : D} {u : U} (r : RelV CT W h v u) : ∀ {acc : KVs} {us : List (U × U)}, RelI' CT W h acc us → RelI' CT W h (iput i v acc) (dput (.int i) u us)
  | [], us, z => by
    unfold RelI' at z ⊢
    rw [List.map_nil] at z
    unfold RelKs at z
    subst z
    show RelKs CT W h [(D.int i, v)] [(U.int i, u)]
    unfold RelKs
    exact ⟨_, _, rfl, rel_int, r, rfl⟩
  | p :: acc, us, z => by
    unfold RelI' at z
    rw [List.map_cons] at z
    unfold RelKs at z
    obtain ⟨q, us', rfl, z1, z2, z3⟩ := z
    have e : q.1 = .int p.1 := z1
    unfold iput dput
    by_cases c : p.1 = i
    · rw [if_pos c, if_pos (by rw [e, c])]
      show RelKs CT W h (dk (p.1, v) :: acc.map dk) _
      unfold RelKs
      exact ⟨_, _, rfl, z1, r, z3⟩
    · rw [if_neg c, if_neg (by rw [e]; exact fun z => c (by injection z))]
      show RelKs CT W h (dk p :: (iput i v acc).map dk) _
      unfold RelKs
      exact ⟨_, _, rfl, z1, z2, rel_put r z3⟩
theorem rel_lk {j : Int} {v : D} : ∀ {kvs : List (D × D)} {us : List (U × U)}, RelKs CT W h kvs us → lkI j kvs = some v → ∃ u, us.lookup (.int j) = some u ∧ RelV CT W h v u
  | [], _, _, e => by cases e
  | (a, b) :: r, us, z, e => by
    unfold RelKs at z
    obtain ⟨q, us', rfl, z1, z2, z3⟩ := z
    cases a with
    | int i =>
      have e1 : q.1 = .int i := z1
      unfold lkI at e
      obtain ⟨q1, q2⟩ := q
      simp only at e1
      subst e1
      rw [List.lookup_cons]
      by_cases c : i = j
      · subst c
        rw [if_pos rfl] at e
        cases e
        rw [beq_self_eq_true]
        exact ⟨_, rfl, z2⟩
      · rw [if_neg c] at e
        have : (U.int j == U.int i) = false := beq_eq_false_iff_ne.mpr fun z => c (by injection z with z; exact z.symm)
        rw [this]
        exact rel_lk z3 e
    | _ => unfold lkI at e; cases e
theorem s_getD : OpS CT getU vgetD := fun W h d e u v r1 r2 => by
  cases d <;> first | exact Sm.bad | skip
  cases e <;> first | exact Sm.bad | skip
  rename_i k j
  unfold RelV at r2
  subst r2
  intro n s Q X l q
  obtain ⟨kvs, w, q1, q2, q3⟩ := q
  obtain ⟨m, vo, e1, rfl, hj, e4, _⟩ := l.ref r1 q1 (fun z => nomatch z)
  obtain ⟨us, rfl, rk⟩ := e4
  obtain ⟨x, k1, k2⟩ := rel_lk rk q2
  refine .inl ⟨x, h, W, w, n, s, ?_, .refl, l, k2, q3⟩
  unfold getU
  simp only [hj, k1]
  rfl
def RelP (CT : CTab) (W : Wd) (h : VH) (d : Option (D × D)) (u : Option (U × U)) : Prop := match d with
  | none => u = none
  | some d => ∃ w, u = some w ∧ RelV CT W h d.1 w.1 ∧ RelV CT W h d.2 w.2
theorem s_comp2 {tg : Tg} {t : TM} {vt : TV} {k a : EM} {vk va : EV} (ht : TvS CT t vt) (hk : EvS CT k vk) (ha : EvS CT a va) {d : D} {u : U} {η : VE} {e : MP.Env} (r : RelV CT W h d u) (r2 : RelE CT W h η e) : Sm CT (RelP CT) W h (compT2 (tgM tg) t k a u e) (vcomp2 (tgV tg) vt vk va d η) :=
  .noX (.bnd (g_tg tg _ _ _ _ _ _ r r2) fun W1 h1 e1 η1 x1 r1 => .bnd (ht _ _ _ _ r1) fun W2 h2 c k x2 r3 => .ite r3 (.bnd (hk _ _ _ _ (r1.ex x2)) fun W3 h3 w d3 x3 r4 => .bnd (ha _ _ _ _ ((r1.ex x2).ex x3)) fun W4 h4 w2 d4 x4 r5 => .ret ⟨_, rfl, r4.ex x4, r5⟩) (.ret rfl))
theorem s_compD {tg : Tg} {t : TM} {vt : TV} {k a : EM} {vk va : EV} (ht : TvS CT t vt) (hk : EvS CT k vk) (ha : EvS CT a va) {w : List (Nat × VO)} {η : VE} {e : MP.Env} : ∀ {ds : List D} {us : List U} {W : Wd} {h : VH} {acc : KVs} {au : List (U × U)}, RelVs CT W h ds us → RelE CT W h η e → WkOk W h w → RelI' CT W h acc au →
    Sm CT (RelI' CT) W h (MP.compD w (tgM tg) t k a us e au) (vcompDL (tgV tg) vt vk va ds η acc)
  | [], us, W, h, acc, au, r, r2, hw, ra => by
    unfold RelVs at r
    subst r
    refine .of_eq (m' := mret au) ?_ (.ret ra)
    unfold MP.compD
    rw [if_pos (ok_w hw)]
    rfl
  | d :: ds, us, W, h, acc, au, r, r2, hw, ra => by
    obtain ⟨u, z, rfl, r3, r4⟩ := r.uncons
    refine .of_eq (m' := MP.bnd (compT2 (tgM tg) t k a u e) fun o => match o with
        | some p => if isKS p.1 = true then MP.compD w (tgM tg) t k a z e (dput p.1 p.2 au) else mbad
        | none => MP.compD w (tgM tg) t k a z e au) ?_ (.bnd (s_comp2 ht hk ha r3 r2) fun W1 h1 o o' x1 r5 => ?_)
    · show (if okW w h = true then _ else _) = _
      rw [if_pos (ok_w hw)]
      first
        | done
        | (refine congrFun (congrArg (MP.bnd _) (funext fun o => ?_)) h
           cases o <;> rfl)
    · have ra1 : RelI' CT W1 h1 acc au := RelKs.ex x1 ra
      cases o' with
      | none =>
        have : o = none := r5
        subst this
        exact s_compD ht hk ha (RelVs.ex x1 _ _ r4) (r2.ex x1) (w_ex x1 hw) ra1
      | some d' =>
        obtain ⟨w', rfl, r7, r8⟩ := r5
        obtain ⟨d1, d2⟩ := d'
        obtain ⟨w1, w2⟩ := w'
        cases d1 with
        | int i =>
          have e1 : w1 = .int i := r7
          subst e1
          simp only [isKS, if_true]
          exact s_compD ht hk ha (RelVs.ex x1 _ _ r4) (r2.ex x1) (w_ex x1 hw) (rel_put r8 ra1)
        | _ => exact Sm.bad
theorem e_Dc {it : MP.Env → M Itr} {vit : VE → VM VI} {tg : Tg} {t : TM} {vt : TV} {k a : EM} {vk va : EV} (hi : ItS CT it vit) (ht : TvS CT t vt) (hk : EvS CT k vk) (ha : EvS CT a va) : EvS CT (xDc it tg t k a) (yDc vit tg vt vk va) := fun W h η e r =>
  .bnd (hi _ _ _ _ r) fun W1 h1 I ds x1 r1 => .req fun c => by
    rw [if_pos (by rw [r1.1.len]; exact c)]
    rw [vcompDI_eq]
    exact .bnd (R := RelI' CT) (Sm.hold (R := RelI' CT) (fun W k h b a z => RelKs.ex0 .unlock (show RelKs CT _ _ _ _ from z)) r1 fun W2 y2 hw => s_compD ht hk ha (RelVs.ex y2 _ _ r1.1) (r.ex (x1.trans y2)) hw rel_nil') fun W2 h2 us ds x2 r2 => fun n s Q X l q =>
      .inl ⟨_, _, W2.add h2.length, _, n, _, rfl, .add l, l.add (o := .dct _) ⟨us, rfl, r2⟩, add_ref l, q⟩
end
end MV
/-! VL1: loops; what the heap laws draw. -/
namespace MV
open PySem MP

/-! ### loops -/
/-- I: by the turn -/
theorem for_ok {tg : GV} {b : SV} {Q : Gl → Nat → DS → Prop} {X : XQ} (I : Nat → VE → Nat → DS → Prop) {us : List D} {η : VE} {n : Nat} {s : DS} (h0 : I 0 η n s)
    (hs : ∀ i u η n s (K : Gl → Nat → DS → Prop), us[i]? = some u → I i η n s → (∀ η' n' s', I (i + 1) η' n' s' → K (.next η') n' s') → (∀ η' n' s', I (i + 1) η' n' s' → K (.cont η') n' s') → (∀ η' n' s', Q (.next η') n' s' → K (.brk η') n' s') → (∀ v n' s', Q (.ret v) n' s' → K (.ret v) n' s') → vbnd (tg u η) b K X n s)
    (hd : ∀ η n s, I us.length η n s → Q (.next η) n s) : vforI tg b us η Q X n s := by
  rw [vforI_eq]
  have key : ∀ (us : List D) (k : Nat) (η : VE) (n : Nat) (s : DS), I k η n s →
      (∀ i u η n s (K : Gl → Nat → DS → Prop), us[i]? = some u → I (k + i) η n s → (∀ η' n' s', I (k + i + 1) η' n' s' → K (.next η') n' s') → (∀ η' n' s', I (k + i + 1) η' n' s' → K (.cont η') n' s') → (∀ η' n' s', Q (.next η') n' s' → K (.brk η') n' s') → (∀ v n' s', Q (.ret v) n' s' → K (.ret v) n' s') → vbnd (tg u η) b K X n s) →
      (∀ η n s, I (k + us.length) η n s → Q (.next η) n s) → vforL tg b us η Q X n s := by
    intro us
    induction us with
    | nil => exact fun k η n s h0 _ hd => hd η n s h0
    | cons u us ih =>
      intro k η n s h0 hs hd
      have go : ∀ η' n' s', I (k + 0 + 1) η' n' s' → vforL tg b us η' Q X n' s' := fun η' n' s' hi => ih (k + 1) η' n' s' hi (fun i v η n s K hv hI => by
        have e : k + (i + 1) = k + 1 + i := by omega
        have := hs (i + 1) v η n s K (by simpa using hv) (by rw [e]; exact hI)
        have e2 : k + (i + 1) + 1 = k + 1 + i + 1 := by omega
        rw [e2] at this
        exact this) fun η n s hI => hd η n s (by
        have e : k + (u :: us).length = k + 1 + us.length := by rw [List.length_cons]; omega
        rw [e]
        exact hI)
      exact hs 0 u η n s _ rfl h0 (fun η' n' s' hi => go η' n' s' hi) (fun η' n' s' hi => go η' n' s' hi) (fun η' n' s' q => q) (fun v n' s' q => q)
  exact key us 0 η n s h0 (fun i u η n s K hu hI => by
    rw [Nat.zero_add] at hI ⊢
    exact hs i u η n s K hu hI) fun η n s hI => hd η n s (by rw [Nat.zero_add] at hI; exact hI)
/-- one turn of a comprehension -/
abbrev stepC (tg : GV) (t : TV) (e : EV) (u : D) (η : VE) : VM (Option D) := vbnd (tg u η) fun η' => vbnd (t η') fun c => vcase c (vbnd (e η') fun v => vret (some v)) (vret none)
abbrev noX : XQ := fun _ _ _ _ => False
/-- I: by the turn, what is gathered -/
theorem comp_ok {tg : GV} {t : TV} {e : EV} {Q : List D → Nat → DS → Prop} {X : XQ} (I : Nat → List D → Nat → DS → Prop) {us : List D} {η : VE} {n : Nat} {s : DS} (h0 : I 0 [] n s)
    (hs : ∀ i u acc n s (K : Option D → Nat → DS → Prop), us[i]? = some u → I i acc n s → (∀ v n' s', I (i + 1) (acc ++ [v]) n' s' → K (some v) n' s') → (∀ n' s', I (i + 1) acc n' s' → K none n' s') → stepC tg t e u η K noX n s)
    (hd : ∀ out n s, I us.length out n s → Q out n s) : vcompI tg t e us η Q X n s := by
  rw [vcompI_eq]
  have key : ∀ (us : List D) (k : Nat) (acc : List D) (n : Nat) (s : DS) (Q : List D → Nat → DS → Prop), I k acc n s →
      (∀ i u acc n s (K : Option D → Nat → DS → Prop), us[i]? = some u → I (k + i) acc n s → (∀ v n' s', I (k + i + 1) (acc ++ [v]) n' s' → K (some v) n' s') → (∀ n' s', I (k + i + 1) acc n' s' → K none n' s') → stepC tg t e u η K noX n s) →
      (∀ out n s, I (k + us.length) out n s → ∀ r, out = acc ++ r → Q r n s) → vcompL tg t e us η Q X n s := by
    intro us
    induction us with
    | nil => exact fun k acc n s Q h0 _ hd => hd acc n s h0 [] (by simp)
    | cons u us ih =>
      intro k acc n s Q h0 hs hd
      have go : ∀ (o : Option D) n' s', I (k + 0 + 1) (acc ++ o.toList) n' s' → vcompL tg t e us η (fun vs => Q (o.toList ++ vs)) X n' s' := fun o n' s' hi => ih (k + 1) (acc ++ o.toList) n' s' _ hi (fun i v acc n s K hv hI => by
        have e : k + (i + 1) = k + 1 + i := by omega
        have := hs (i + 1) v acc n s K (by simpa using hv) (by rw [e]; exact hI)
        have e2 : k + (i + 1) + 1 = k + 1 + i + 1 := by omega
        rw [e2] at this
        exact this) fun out n s hI r hr => hd out n s (by
        have e : k + (u :: us).length = k + 1 + us.length := by rw [List.length_cons]; omega
        rw [e]
        exact hI) (o.toList ++ r) (by rw [hr, List.append_assoc])
      exact hs 0 u acc n s _ rfl h0 (fun v n' s' hi => go (some v) n' s' hi) (fun n' s' hi => go none n' s' (by simpa using hi))
  exact key us 0 [] n s Q h0 (fun i u acc n s K hu hI => by
    rw [Nat.zero_add] at hI ⊢
    exact hs i u acc n s K hu hI) fun out n s hI r hr => by
      rw [Nat.zero_add] at hI
      rw [List.nil_append] at hr
      rw [← hr]
      exact hd out n s hI
/-- one that draws nothing and changes nothing -/
theorem comp_pure {tg : GV} {t : TV} {e : EV} {Q : List D → Nat → DS → Prop} {X : XQ} (g : D → Option D) {us : List D} {η : VE} {n : Nat} {s : DS}
    (hs : ∀ u (K : Option D → Nat → DS → Prop), u ∈ us → K (g u) n s → stepC tg t e u η K noX n s) (hd : Q (us.filterMap g) n s) : vcompI tg t e us η Q X n s := by
  refine comp_ok (fun i acc n' s' => acc = (us.take i).filterMap g ∧ n' = n ∧ s' = s) ⟨rfl, rfl, rfl⟩ (fun i u acc n' s' K hu hI h1 h2 => ?_) fun out n' s' hI => ?_
  · obtain ⟨rfl, rfl, rfl⟩ := hI
    refine hs u K (List.mem_of_getElem? hu) ?_
    have e1 : us.take (i + 1) = us.take i ++ [u] := by rw [List.take_succ, hu]; rfl
    cases e : g u with
    | none => exact h2 _ _ ⟨by rw [e1, List.filterMap_append]; simp [e], rfl, rfl⟩
    | some v => exact h1 _ _ _ ⟨by rw [e1, List.filterMap_append]; simp [e], rfl, rfl⟩
  · obtain ⟨rfl, rfl, rfl⟩ := hI
    rw [List.take_length]
    exact hd
theorem map_pure {tg : GV} {t : TV} {e : EV} {Q : List D → Nat → DS → Prop} {X : XQ} (g : D → D) {us : List D} {η : VE} {n : Nat} {s : DS}
    (hs : ∀ u (K : Option D → Nat → DS → Prop), u ∈ us → K (some (g u)) n s → stepC tg t e u η K noX n s) (hd : Q (us.map g) n s) : vcompI tg t e us η Q X n s :=
  comp_pure (fun u => some (g u)) hs (by rw [List.filterMap_eq_map']; exact hd)
/-- one that draws: B draws a turn -/
theorem comp_each {tg : GV} {t : TV} {e : EV} {Q : List D → Nat → DS → Prop} {X : XQ} (P : D → Prop) (B : Nat) {us : List D} {η : VE} {n : Nat} {s : DS}
    (hs : ∀ u n' (K : Option D → Nat → DS → Prop), u ∈ us → n' + B ≤ n + us.length * B → (∀ v n2, P v → n2 ≤ n' + B → K (some v) n2 s) → stepC tg t e u η K noX n' s)
    (hd : ∀ vs n', vs.length = us.length → (∀ v ∈ vs, P v) → n' ≤ n + us.length * B → Q vs n' s) : vcompI tg t e us η Q X n s := by
  refine comp_ok (fun i acc n' s' => acc.length = i ∧ (∀ v ∈ acc, P v) ∧ n' ≤ n + i * B ∧ s' = s) ⟨rfl, (fun v hv => nomatch hv), by omega, rfl⟩ (fun i u acc n' s' K hu hI h1 h2 => ?_) fun out n' s' hI => ?_
  · obtain ⟨e1, e2, e3, rfl⟩ := hI
    have hi : i < us.length := (List.getElem?_eq_some_iff.mp hu).1
    have hb : (i + 1) * B ≤ us.length * B := Nat.mul_le_mul_right _ hi
    have hb2 : (i + 1) * B = i * B + B := Nat.succ_mul i B
    refine hs u n' K (List.mem_of_getElem? hu) (by omega) fun v n2 hv hn2 => h1 v n2 _ ⟨by simp [e1], fun w hw => ?_, by omega, rfl⟩
    rcases List.mem_append.mp hw with hw | hw
    · exact e2 w hw
    · rw [List.mem_singleton.mp hw]; exact hv
  · obtain ⟨e1, e2, e3, rfl⟩ := hI
    exact hd out n' e1 e2 e3
theorem rng_len {lo : Int} {n : Nat} : (rngD lo n).length = n := by unfold rngD; simp
theorem rng_at {lo : Int} {n i : Nat} {u : D} (e : (rngD lo n)[i]? = some u) : i < n ∧ u = .int (lo + (i : Nat)) := by
  have hi : i < n := by
    have := (List.getElem?_eq_some_iff.mp e).1
    rw [rng_len] at this
    exact this
  unfold rngD at e
  rw [List.getElem?_map, List.getElem?_range hi] at e
  exact ⟨hi, (Option.some.inj e).symm⟩
theorem rng_mem {lo : Int} {n : Nat} {u : D} (e : u ∈ rngD lo n) : ∃ i : Nat, i < n ∧ u = .int (lo + i) := by
  obtain ⟨i, hi⟩ := List.getElem?_of_mem e
  obtain ⟨h1, h2⟩ := rng_at hi
  exact ⟨i, h1, h2⟩
theorem small_line {k : Nat} (h : k ≤ 100000) : k ≤ sizeLine := Nat.le_trans h (by decide)
theorem small_line' {k : Nat} (h : k < 100000) : k < sizeLine := Nat.lt_of_lt_of_le h (by decide)

/-! ### lists of objects -/
section
variable {s t : DS} {a b : DO}
theorem st_new : (s ++ [a])[s.length]? = some a := by simp
theorem st_set : (s ++ [a]).set s.length b = s ++ [b] := by simp
theorem clos_map {α : Type} {f : α → D} {k : Nat} (h : ∀ x, clo k (f x) = true) : ∀ l : List α, clos k (l.map f) = true
  | [] => by unfold clos; rfl
  | x :: l => by
    rw [List.map_cons]
    unfold clos
    rw [h x, clos_map h l]
    rfl
theorem clo_str {k : Nat} {x : Str} : clo k (.str x) = true := by unfold clo; rfl
theorem clo_int {k : Nat} {x : Int} : clo k (.int x) = true := by unfold clo; rfl
theorem clo_lst {k : Nat} {xs : List D} (h : clos k xs = true) : clo k (.lst xs) = true := by unfold clo; exact h
theorem clo_tup {k : Nat} {xs : List D} (h : clos k xs = true) : clo k (.tup xs) = true := by unfold clo; exact h
end

/-! ### comparisons of flat values -/
theorem eqD_int {a b : Int} : eqD (.int a) (.int b) = decide (a = b) := by
  unfold eqD
  by_cases e : a = b <;> simp [e]
theorem eqD_str {a b : Str} : eqD (.str a) (.str b) = decide (a = b) := by
  unfold eqD
  by_cases e : a = b <;> simp [e]
theorem anyD_str (x : Str) : ∀ xs : List Str, ((xs.map D.str).any fun z => eqD z (.str x)) = decide (x ∈ xs)
  | [] => by simp
  | y :: xs => by
    rw [List.map_cons, List.any_cons, anyD_str x xs, eqD_str]
    by_cases e : y = x
    · simp [e]
    · have : ¬ x = y := fun z => e z.symm
      simp [e, this]
theorem anyD_int (x : Int) : ∀ xs : List Int, ((xs.map D.int).any fun z => eqD z (.int x)) = decide (x ∈ xs)
  | [] => by simp
  | y :: xs => by
    rw [List.map_cons, List.any_cons, anyD_int x xs, eqD_int]
    by_cases e : y = x
    · simp [e]
    · have : ¬ x = y := fun z => e z.symm
      simp [e, this]
theorem all_flatS (xs : List Str) : (xs.map D.str).all flatD = true := by
  rw [List.all_eq_true]
  intro u hu
  obtain ⟨x, _, rfl⟩ := List.mem_map.mp hu
  rfl
theorem all_flatI (xs : List Int) : (xs.map D.int).all flatD = true := by
  rw [List.all_eq_true]
  intro u hu
  obtain ⟨x, _, rfl⟩ := List.mem_map.mp hu
  rfl
theorem inOk_str {x : Str} {xs : List Str} : inOk (.str x) (xs.map .str) = true := by unfold inOk; rw [all_flatS]; rfl
theorem inOk_int {x : Int} {xs : List Int} : inOk (.int x) (xs.map .int) = true := by unfold inOk; rw [all_flatI]; rfl

/-! ### the pen -/
def SDraw (f : FV) : Prop := ∀ (m : Int) (Q : D → Nat → DS → Prop) (X : XQ) n s, 1 ≤ m → m < 1073741824 → n < 1000000000000 → (∀ (z : Int) n', 0 ≤ z → z < m → n' ≤ n + 1 → Q (.int z) n' s) → f [.pen, .int m] Q X n s
theorem draw_sp : SDraw vdraw := fun m Q X n s h1 h2 h3 q => ⟨⟨h1, h2, h3⟩, fun z z0 z1 => q z _ z0 z1 (Nat.le_refl _)⟩
def ABC : Str := "abcdefghijklmnopqrstuvwxyz"
/-- a word of at most m letters -/
def WordOk (m : Int) (x : Str) : Prop := (∀ c ∈ x.cps.toList, c ∈ ABC.cps.toList) ∧ 1 ≤ x.length ∧ (x.length : Int) ≤ m
def SWord (f : FV) : Prop := ∀ (m : Int) (Q : D → Nat → DS → Prop) (X : XQ) n s, 1 ≤ m → m ≤ 12 → n < 900000000000 → (∀ x n', WordOk m x → n' ≤ n + 13 → Q (.str x) n' s) → f [.pen, .int m] Q X n s
def one (c : Nat) : Str := ⟨#[c]⟩
theorem glue_ones : ∀ (cs : List Nat) (acc : Array Nat), (cs.map one).foldl (fun acc p => acc ++ (Str.ofString "").cps ++ p.cps) acc = acc ++ cs.toArray
  | [], acc => by simp
  | c :: cs, acc => by
    rw [List.map_cons, List.foldl_cons, glue_ones cs]
    have e : (Str.ofString "").cps = #[] := by decide +kernel
    rw [e]
    show acc ++ #[] ++ #[c] ++ cs.toArray = _
    simp
theorem join_one (cs : List Nat) : Txt.join (Str.ofString "") (cs.map one) = ⟨cs.toArray⟩ := by
  show Builtin.Str.glued (Str.ofString "") (cs.map one) = _
  unfold Builtin.Str.glued
  cases cs with
  | nil => rfl
  | cons c cs =>
    rw [List.map_cons, List.drop_succ_cons, List.drop_zero, glue_ones]
    show (⟨#[c] ++ cs.toArray⟩ : Str) = _
    simp
theorem ones_len (cs : List Nat) : ((cs.map one).map (·.length)).sum = cs.length := by
  rw [List.map_map]
  induction cs with
  | nil => rfl
  | cons c cs ih =>
    rw [List.map_cons, List.sum_cons, ih, List.length_cons]
    show 1 + _ = _
    omega
theorem atI_nat {α : Type} {xs : List α} {j : Nat} : L2.atI xs (j : Int) = xs[j]? := by
  have ixN : ∀ {n : Nat}, j < n → L2.ixN n (j : Int) = some j := fun {n} hj => by
    unfold L2.ixN
    rw [if_pos (by omega), if_pos (by omega)]
    rfl
  unfold L2.atI
  by_cases hj : j < xs.length
  · rw [ixN hj]
    rfl
  · unfold L2.ixN
    rw [if_pos (by omega), if_neg (by omega), List.getElem?_eq_none (by omega)]
    rfl
theorem atI_zero {α : Type} {x : α} {r : List α} : L2.atI (x :: r) 0 = some x := atI_nat (j := 0)
noncomputable def c__law_word (f__law_draw : FV) : SV := zSeq (zTg (.one 2) (yC (.str "abcdefghijklmnopqrstuvwxyz"))) (zRet (yJoin (yC (.str "")) [yLc (jtR1 (yOp vadd (yC (.int 1)) (yFn f__law_draw [yV 0, yV 1]))) (.one 3) (uYes) (yOp vget (yV 2) (yFn f__law_draw [yV 0, yC (.int 26)]))]))
noncomputable def v__law_word (f__law_draw : FV) : FV := vfn 4 2 (c__law_word f__law_draw)
noncomputable def c__law_names (f__law_draw f__law_word : FV) : SV := zSeq (zTg (.one 2) (yLstM [])) (zSeq (zFor (jtR1 (yV 1)) (.one 3) (zSeq (zTg (.one 4) (yFn f__law_word [yV 0, yIf (uBl (yOp veq (yFn f__law_draw [yV 0, yC (.int 4)]) (yC (.int 0)))) (yC (.int 12)) (yC (.int 2))])) (zSeq (zTg (.one 5) (yLc (jtV (yLc (jtR2 (yC (.int 1)) (yC (.int 13))) (.one 7) (uYes) (yOp vmul (yC (.str "a")) (yV 7)))) (.one 6) (uBl (yOp vnin (yV 6) (yV 2))) (yV 6))) (zExp (yApp (yV 2) [yIf (uBl (yOp vin (yV 4) (yV 2))) (yOp vget (yV 5) (yC (.int 0))) (yV 4)]))))) (zRet (yFrz (yV 2))))
noncomputable def v__law_names (f__law_draw f__law_word : FV) : FV := vpure (vfn 8 2 (c__law_names f__law_draw f__law_word))
noncomputable def c__law_number (f__law_draw : FV) : SV := zSeq (zTg (.one 1) (yFn f__law_draw [yV 0, yC (.int 8)])) (zSeq (zIf (uBl (yOp vlt (yV 1) (yC (.int 4)))) (zRet (yOp vsub (yFn f__law_draw [yV 0, yC (.int 9)]) (yC (.int 4)))) (zNil)) (zSeq (zTg (.one 2) (yFn f__law_draw [yV 0, yC (.int 1000003)])) (zSeq (zIf (uBl (yOp vgt (yV 1) (yC (.int 5)))) (zTg (.one 2) (yOp vadd (yOp vmul (yV 2) (yC (.int 1000003))) (yFn f__law_draw [yV 0, yC (.int 1000003)]))) (zNil)) (zSeq (zIf (uBl (yOp vgt (yV 1) (yC (.int 6)))) (zTg (.one 2) (yOp vadd (yOp vmul (yV 2) (yOp vpow (yC (.int 10)) (yC (.int 18)))) (yFn f__law_draw [yV 0, yC (.int 1000003)]))) (zNil)) (zRet (yIf (uBl (yOp veq (yFn f__law_draw [yV 0, yC (.int 2)]) (yC (.int 0)))) (yUn vneg (yV 2)) (yV 2)))))))
noncomputable def v__law_number (f__law_draw : FV) : FV := vfn 3 1 (c__law_number f__law_draw)
noncomputable def c__law_content (f__law_draw f__law_number : FV) : SV := zSeq (zTg (.one 2) (yFn f__law_draw [yV 0, yC (.int 5)])) (zSeq (zIf (uAnd (uBl (yOp vlt (yV 2) (yC (.int 3)))) (uBl (yOp vgt (yV 1) (yC (.int 0))))) (zRet (yTup [yC (.str "node"), yFn f__law_draw [yV 0, yV 1]])) (zNil)) (zRet (yIf (uBl (yOp veq (yV 2) (yC (.int 3)))) (yC .non) (yFn f__law_number [yV 0]))))
noncomputable def v__law_content (f__law_draw f__law_number : FV) : FV := vfn 3 2 (c__law_content f__law_draw f__law_number)
noncomputable def c__law_rows (f__law_content : FV) : SV := zSeq (zTg (.one 3) (yLstM [])) (zSeq (zFor (jtR1 (yV 2)) (.one 4) (zExp (yApp (yV 3) [yFn vtup [yLc (jtV (yV 1)) (.one 5) (uYes) (yFn f__law_content [yV 0, yV 2])]]))) (zRet (yFrz (yV 3))))
noncomputable def v__law_rows (f__law_content : FV) : FV := vpure (vfn 6 3 (c__law_rows f__law_content))
noncomputable def c__law_fields (f__law_draw f__law_names : FV) : SV := zRet (yFn f__law_names [yV 0, yOp vadd (yC (.int 1)) (yFn f__law_draw [yV 0, yC (.int 3)])])
noncomputable def v__law_fields (f__law_draw f__law_names : FV) : FV := vfn 1 1 (c__law_fields f__law_draw f__law_names)

theorem abc_len : ABC.cps.toList.length = 26 := by decide +kernel
theorem word_ok {f : FV} (hd : SDraw f) : SWord (v__law_word f) := fun m Q X n s h1 h2 hn q => by
  refine ⟨rfl, ?_⟩
  (conv => whnf)
  refine hd _ _ _ _ _ h1 (by omega) (by omega) fun k n1 k0 k1 hn1 => ?_
  (conv => whnf)
  refine ⟨⟨by omega, by omega⟩, ?_⟩
  (conv => whnf)
  refine ⟨small_line (by rw [rng_len]; omega), ?_⟩
  (conv => whnf)
  refine comp_each (fun v => ∃ c, c ∈ ABC.cps.toList ∧ v = .str (one c)) 1 (fun u n' K hu hn' hK => ?_) fun vs n' hl hP hn' => ?_
  · rw [rng_len] at hn'
    obtain ⟨i, hi, rfl⟩ := rng_mem hu
    (conv => whnf)
    refine vcase_t ?_; (conv => whnf)
    refine hd _ _ _ _ _ (by decide) (by decide) (by omega) fun z n2 z0 z1 hn2 => ?_
    (conv => whnf)
    obtain ⟨j, rfl⟩ : ∃ j : Nat, z = (j : Int) := ⟨z.toNat, by omega⟩
    have hj : j < ABC.cps.toList.length := by rw [abc_len]; omega
    refine ⟨by decide +kernel, _, (by rw [atI_nat]; exact List.getElem?_eq_getElem hj), ?_⟩
    (conv => whnf)
    exact hK _ _ ⟨_, List.getElem_mem hj, rfl⟩ hn2
  · rw [rng_len] at hl hn'
    obtain ⟨cs, rfl, hcs⟩ : ∃ cs : List Nat, vs = cs.map (fun c => .str (one c)) ∧ ∀ c ∈ cs, c ∈ ABC.cps.toList := by
      clear hl
      induction vs with
      | nil => exact ⟨[], rfl, fun c hc => nomatch hc⟩
      | cons v vs ih =>
        obtain ⟨c, c1, rfl⟩ := hP v List.mem_cons_self
        obtain ⟨cs, rfl, h⟩ := ih fun w hw => hP w (List.mem_cons_of_mem _ hw)
        refine ⟨c :: cs, rfl, fun d hd => ?_⟩
        rcases List.mem_cons.mp hd with rfl | hd
        · exact c1
        · exact h d hd
    rw [List.length_map] at hl
    (conv => whnf)
    refine ⟨cs.map one, by rw [List.map_map]; rfl, ?_, ?_⟩
    · rw [ones_len]
      have : (Str.ofString "").length = 0 := by decide +kernel
      show cs.length + (cs.map one).length * (Str.ofString "").length ≤ _
      rw [this]
      omega
    (conv => whnf)
    show Q (.str (Txt.join (Str.ofString "") (cs.map one))) n' s
    rw [join_one]
    refine q _ _ ⟨by simpa using hcs, ?_, ?_⟩ (by omega)
    · show 1 ≤ cs.toArray.size
      simp
      omega
    · show ((cs.toArray.size : Nat) : Int) ≤ m
      simp
      omega
/-- names: good ones, all different -/
def NamesOk' (xs : List Str) : Prop := (∀ x ∈ xs, WordOk 12 x) ∧ xs.Nodup
def SNames (f : FV) : Prop := ∀ (k : Nat) (Q : D → Nat → DS → Prop) (X : XQ) n s, k ≤ 11 → n < 800000000000 → (∀ xs n', xs.length = k → NamesOk' xs → n' ≤ n + 14 * k → Q (.lst (xs.map .str)) n' s) → f [.pen, .int k] Q X n s
def aas (k : Nat) : Str := ⟨(List.replicate k 97).toArray⟩
theorem aas_is (k : Nat) (hk : 1 ≤ k) : (⟨(List.replicate (k : Int).toNat (Str.ofString "a").cps.toList).flatten.toArray⟩ : Str) = aas k := by
  have : (Str.ofString "a").cps.toList = [97] := by decide +kernel
  rw [this]
  unfold aas
  have e : ∀ k : Nat, (List.replicate k [97]).flatten = List.replicate k 97 := fun k => by
    induction k with
    | zero => rfl
    | succ k ih => rw [List.replicate_succ, List.flatten_cons, ih, List.replicate_succ]; rfl
  show (⟨(List.replicate k [97]).flatten.toArray⟩ : Str) = _
  rw [e]
theorem aas_ok {k : Nat} (h1 : 1 ≤ k) (h2 : k ≤ 12) : WordOk 12 (aas k) := by
  refine ⟨fun c hc => ?_, ?_, ?_⟩
  · have hc' : c ∈ List.replicate k 97 := by simpa [aas] using hc
    rw [(List.mem_replicate.mp hc').2]
    decide +kernel
  · show 1 ≤ (List.replicate k 97).toArray.size
    simp
    exact h1
  · show (((List.replicate k 97).toArray.size : Nat) : Int) ≤ 12
    simp
    omega
theorem aas_inj {j k : Nat} (e : aas j = aas k) : j = k := by
  have : (aas j).length = (aas k).length := by rw [e]
  have h : ∀ k, (aas k).length = k := fun k => by
    show (List.replicate k 97).toArray.size = k
    simp
  rw [h, h] at this
  exact this
theorem pigeon {α : Type} [DecidableEq α] : ∀ (as xs : List α), as.Nodup → xs.length < as.length → ∃ a ∈ as, a ∉ xs
  | [], xs, _, h => by simp at h
  | a :: as, xs, h1, h2 => by
    by_cases ha : a ∈ xs
    · obtain ⟨b, hb, hx⟩ := pigeon as (xs.erase a) (List.nodup_cons.mp h1).2 (by rw [List.length_erase_of_mem ha]; simp at h2; have := List.length_pos_of_mem ha; omega)
      refine ⟨b, List.mem_cons_of_mem _ hb, fun z => hx ?_⟩
      have hne : b ≠ a := fun e => (List.nodup_cons.mp h1).1 (e ▸ hb)
      exact (List.mem_erase_of_ne hne).mpr z
    · exact ⟨a, List.mem_cons_self, ha⟩
def spare (xs : List Str) : List Str := ((List.range 12).map fun i => aas (i + 1)).filter fun x => !decide (x ∈ xs)
theorem spare_ok {xs : List Str} (h : xs.length < 12) : ∃ x r, spare xs = x :: r ∧ WordOk 12 x ∧ x ∉ xs := by
  have nd : ((List.range 12).map fun i => aas (i + 1)).Nodup := by
    rw [List.nodup_iff_pairwise_ne, List.pairwise_map]
    refine List.Pairwise.imp (fun {a b} h e => ?_) List.nodup_range
    have := aas_inj e
    omega
  obtain ⟨a, ha, hx⟩ := pigeon _ xs nd (by simpa using h)
  have hm : a ∈ spare xs := List.mem_filter.mpr ⟨ha, by simpa using hx⟩
  cases e : spare xs with
  | nil => rw [e] at hm; cases hm
  | cons x r =>
    have hx2 : x ∈ spare xs := by rw [e]; exact List.mem_cons_self
    obtain ⟨p1, p2⟩ := List.mem_filter.mp hx2
    obtain ⟨i, hi, rfl⟩ := List.mem_map.mp p1
    exact ⟨_, r, rfl, aas_ok (by omega) (by have := List.mem_range.mp hi; omega), by simpa using p2⟩
end MV
/-! VL2: names, numbers, contents, rows. -/
namespace MV
open PySem MP
theorem filterMap_str (p : Str → Bool) : ∀ l : List Str, (l.map D.str).filterMap (fun d => match d with
    | .str x => if p x = true then some (.str x) else none
    | _ => none) = (l.filter p).map D.str
  | [] => rfl
  | x :: l => by
    rw [List.map_cons, List.filterMap_cons, filterMap_str p l]
    cases h : p x with
    | true => simp [h]
    | false => simp [h]
theorem names_ok {fd fw : FV} (hd : SDraw fd) (hw : SWord fw) : SNames (v__law_names fd fw) := fun k Q X n s hk hn q => by
  refine ⟨rfl, ?_⟩
  (conv => whnf)
  refine ⟨⟨by omega, by omega⟩, ?_⟩
  (conv => whnf)
  refine for_ok (fun i η n' s' => ∃ xs o3 o4 o5, η = [some .pen, some (.int k), some (.ref s.length), o3, o4, o5, none, none] ∧ s' = s ++ [.lst (xs.map .str)] ∧ xs.length = i ∧ NamesOk' xs ∧ n' ≤ n + 14 * i) ⟨[], none, none, none, rfl, rfl, rfl, ⟨(fun x hx => nomatch hx), .nil⟩, by omega⟩ (fun i u η n' s' K hu hI k1 _ _ _ => ?_) fun η n' s' hI => ?_
  · obtain ⟨xs, o3, o4, o5, rfl, rfl, e1, e2, e3⟩ := hI
    obtain ⟨hi, rfl⟩ := rng_at hu
    (conv => whnf)
    refine hd _ _ _ _ _ (by decide) (by decide) (by omega) fun z n3 z0 z1 hn3 => ?_
    (conv => whnf)
    refine ⟨rfl, ?_⟩
    (conv => whnf)
    refine vcase_j (fun d n2 => ∃ m : Int, d = .int m ∧ 1 ≤ m ∧ m ≤ 12 ∧ n2 ≤ n' + 1) (fun _ Q hq => hq _ _ ⟨12, rfl, by decide, by decide, hn3⟩) (fun _ Q hq => hq _ _ ⟨2, rfl, by decide, by decide, hn3⟩) fun d n2 ⟨m, hd', hm1, hm2, hn2⟩ => ?_
    subst hd'
    (conv => whnf)
    refine hw _ _ _ _ _ hm1 hm2 (by omega) fun x n4 hx hn4 => ?_
    have hx : WordOk 12 x := ⟨hx.1, hx.2.1, by have := hx.2.2; omega⟩
    (conv => whnf)
    refine ⟨⟨by decide, by decide, by decide, by decide⟩, ?_⟩
    (conv => whnf)
    refine ⟨small_line (by rw [rng_len]; decide), ?_⟩
    (conv => whnf)
    refine map_pure (fun d => match d with
      | .int j => .str (aas j.toNat)
      | d => d) (fun u K hu hK => ?_) ?_
    · obtain ⟨j, hj, rfl⟩ := rng_mem hu
      (conv => whnf)
      refine vcase_t ?_; (conv => whnf)
      refine ⟨⟨by decide +kernel, by omega, ?_⟩, ?_⟩
      · have : (Str.ofString "a").length = 1 := by decide +kernel
        rw [this]
        have : j < 12 := hj
        omega
      (conv => whnf)
      have e : (1 + (j : Int)) = ((j + 1 : Nat) : Int) := by omega
      have hK' : K (some (.str (aas (j + 1)))) n4 (s ++ [.lst (xs.map .str)]) := by
        have h2 : (1 + (j : Int)).toNat = j + 1 := by omega
        have := hK
        simp only [h2] at this
        exact this
      rw [← aas_is (j + 1) (by omega)] at hK'
      rw [e]
      exact hK'
    have e12 : (rngD 1 ((13 : Int) - 1).toNat).map (fun d => match d with
      | .int j => .str (aas j.toNat)
      | d => d) = ((List.range 12).map fun i => aas (i + 1)).map D.str := rfl
    rw [e12]
    (conv => whnf)
    refine ⟨small_line (by simp), ?_⟩
    (conv => whnf)
    refine comp_pure (fun d => match d with
      | .str y => if (!decide (y ∈ xs)) = true then some (.str y) else none
      | _ => none) (fun u K hu hK => ?_) ?_
    · obtain ⟨y, hy, rfl⟩ := List.mem_map.mp hu
      (conv => whnf)
      refine ⟨_, st_new, inOk_str, ?_⟩
      (conv => whnf)
      rw [anyD_str]
      simp only at hK
      by_cases hyx : y ∈ xs
      · rw [decide_eq_true hyx] at hK ⊢
        refine vcase_f ?_; (conv => whnf)
        exact hK
      · rw [decide_eq_false hyx] at hK ⊢
        refine vcase_t ?_; (conv => whnf)
        exact hK
    rw [filterMap_str (fun y => !decide (y ∈ xs))]
    have e13 : List.filter (fun y => !decide (y ∈ xs)) ((List.range 12).map fun i => aas (i + 1)) = spare xs := rfl
    rw [e13]
    obtain ⟨sp, r, e5, e6, e7⟩ := spare_ok (xs := xs) (by omega)
    rw [e5]
    (conv => whnf)
    refine ⟨⟨_, st_new⟩, ?_⟩
    (conv => whnf)
    refine ⟨_, st_new, inOk_str, ?_⟩
    (conv => whnf)
    rw [anyD_str]
    refine vcase_j (fun d n2 => ∃ y, d = .str y ∧ WordOk 12 y ∧ y ∉ xs ∧ n2 = n4) (fun hc Q hq => ?_) (fun hc Q hq => hq _ _ ⟨x, rfl, hx, of_decide_eq_false hc, rfl⟩) fun d n5 ⟨y, hd', hy, hyx, hn5⟩ => ?_
    · (conv => whnf)
      exact ⟨.str sp, atI_zero, hq _ _ ⟨sp, rfl, e6, e7, rfl⟩⟩
    subst hd' hn5
    (conv => whnf)
    refine ⟨_, st_new, small_line' (by rw [List.length_map]; omega), ?_⟩
    rw [st_set]
    (conv => whnf)
    refine k1 _ _ _ ⟨xs ++ [y], _, _, _, rfl, by simp, by simp [e1], ⟨fun w hw => ?_, ?_⟩, by omega⟩
    · rcases List.mem_append.mp hw with hw | hw
      · exact e2.1 w hw
      · rw [List.mem_singleton.mp hw]; exact hy
    · rw [List.nodup_append]
      exact ⟨e2.2, by simp, fun a ha b hb => by rw [List.mem_singleton.mp hb]; exact fun z => hyx (z ▸ ha)⟩
  · obtain ⟨xs, o3, o4, o5, rfl, rfl, e1, e2, e3⟩ := hI
    rw [rng_len] at e1 e3
    (conv => whnf)
    refine ⟨_, st_new, ?_⟩
    rw [st_set]
    (conv => whnf)
    refine ⟨[.ded], rfl, clo_lst (clos_map (fun _ => clo_str) _), ?_⟩
    exact q xs n' (by simpa using e1) e2 (by simpa using e3)
def SNumber (f : FV) : Prop := ∀ (Q : D → Nat → DS → Prop) (X : XQ) n s, n < 900000000000 → (∀ z n', n' ≤ n + 5 → Q (.int z) n' s) → f [.pen] Q X n s
theorem m3 : -(2 ^ 64) < (1000003 : Int) ∧ (1000003 : Int) < 2 ^ 64 := by decide +kernel
theorem m4 : -(2 ^ 64) < ((10 : Int) ^ (18 : Int).toNat) ∧ ((10 : Int) ^ (18 : Int).toNat) < 2 ^ 64 := by decide +kernel
theorem number_ok {fd : FV} (hd : SDraw fd) : SNumber (v__law_number fd) := fun Q X n s hn q => by
  refine ⟨rfl, ?_⟩
  (conv => whnf)
  refine hd _ _ _ _ _ (by decide) (by decide) (by omega) fun k n1 k0 k1 hn1 => ?_
  (conv => whnf)
  refine vcase_mk (fun hc => ?_) fun hc => ?_
  · (conv => whnf)
    refine hd _ _ _ _ _ (by decide) (by decide) (by omega) fun z n2 z0 z1 hn2 => ?_
    (conv => whnf)
    exact q _ _ (by omega)
  · (conv => whnf)
    refine hd _ _ _ _ _ (by decide) (by decide) (by omega) fun z n2 z0 z1 hn2 => ?_
    (conv => whnf)
    refine vcase_j (fun g n2 => ∃ z : Int, g = .next [some .pen, some (.int k), some (.int z)] ∧ n2 ≤ n + 3) (fun hc Q hq => ?_) (fun hc Q hq => hq _ _ ⟨z, rfl, by omega⟩) fun g n4 ⟨z, hg, hn4⟩ => ?_
    · (conv => whnf)
      refine ⟨.inr m3, ?_⟩
      (conv => whnf)
      refine hd _ _ _ _ _ (by decide) (by decide) (by omega) fun z2 n3 _ _ hn3 => ?_
      (conv => whnf)
      exact hq _ _ ⟨_, rfl, by omega⟩
    subst hg
    (conv => whnf)
    refine vcase_j (fun g n2 => ∃ z : Int, g = .next [some .pen, some (.int k), some (.int z)] ∧ n2 ≤ n + 4) (fun hc Q hq => ?_) (fun hc Q hq => hq _ _ ⟨z, rfl, by omega⟩) fun g n5 ⟨z, hg, hn5⟩ => ?_
    · (conv => whnf)
      refine ⟨⟨by decide, by decide, by decide⟩, ?_⟩
      (conv => whnf)
      refine ⟨.inr m4, ?_⟩
      (conv => whnf)
      refine hd _ _ _ _ _ (by decide) (by decide) (by omega) fun z2 n3 _ _ hn3 => ?_
      (conv => whnf)
      exact hq _ _ ⟨_, rfl, by omega⟩
    subst hg
    (conv => whnf)
    refine hd _ _ _ _ _ (by decide) (by decide) (by omega) fun z2 n3 _ _ hn3 => ?_
    (conv => whnf)
    refine ⟨rfl, ?_⟩
    (conv => whnf)
    refine vcase_mk (fun hc => ?_) fun hc => ?_
    · (conv => whnf)
      exact q _ _ (by omega)
    · (conv => whnf)
      exact q _ _ (by omega)
inductive Cont where
  | non | int (i : Int) | node (k : Nat)
  deriving DecidableEq
def Cont.d : Cont → D
  | .non => .non
  | .int i => .int i
  | .node k => .tup [.str "node", .int k]
def Cont.ok (n : Nat) : Cont → Prop
  | .node k => k < n
  | _ => True
def SContent (f : FV) : Prop := ∀ (m : Nat) (Q : D → Nat → DS → Prop) (X : XQ) n s, m < 1000000 → n < 800000000000 → (∀ (x : Cont) n', x.ok m → n' ≤ n + 7 → Q x.d n' s) → f [.pen, .int m] Q X n s
theorem content_ok {fd fn : FV} (hd : SDraw fd) (hn' : SNumber fn) : SContent (v__law_content fd fn) := fun m Q X n s hm hn q => by
  refine ⟨rfl, ?_⟩
  (conv => whnf)
  refine hd _ _ _ _ _ (by decide) (by decide) (by omega) fun k n1 k0 k1 hn1 => ?_
  (conv => whnf)
  refine vcase_j (fun c n2 => (c = true → 0 < m) ∧ n2 ≤ n + 1) (fun hc Q hq => ?_) (fun hc Q hq => hq _ _ ⟨(fun z => nomatch z), hn1⟩) fun c n2 ⟨hc, hn2⟩ => ?_
  · (conv => whnf)
    exact hq _ _ ⟨fun z => by have := of_decide_eq_true z; omega, hn1⟩
  (conv => whnf)
  refine vcase_mk (fun h => ?_) fun h => ?_
  · have := hc h
    (conv => whnf)
    refine hd _ _ _ _ _ (by omega) (by omega) (by omega) fun z n3 z0 z1 hn3 => ?_
    (conv => whnf)
    obtain ⟨j, rfl⟩ : ∃ j : Nat, z = (j : Int) := ⟨z.toNat, by omega⟩
    exact q (.node j) _ (show j < m by omega) (by omega)
  (conv => whnf)
  refine ⟨rfl, ?_⟩
  (conv => whnf)
  refine vcase_mk (fun hc => ?_) fun hc => ?_
  · (conv => whnf)
    exact q .non _ trivial (by omega)
  · (conv => whnf)
    refine hn' _ _ _ _ (by omega) fun z n2 h2 => ?_
    (conv => whnf)
    exact q (.int z) _ trivial (by omega)
abbrev Row := List Cont
def rowD (r : Row) : D := .tup (r.map Cont.d)
def RowsOk (n w : Nat) (rs : List Row) : Prop := ∀ r ∈ rs, r.length = w ∧ ∀ x ∈ r, x.ok n
def SRows (f : FV) : Prop := ∀ (fs : List Str) (m : Nat) (Q : D → Nat → DS → Prop) (X : XQ) n s, m < 1000 → fs.length ≤ 10 → n < 700000000000 → (∀ (rs : List Row) n', rs.length = m → RowsOk m fs.length rs → n' ≤ n + m * 70 → Q (.lst (rs.map rowD)) n' s) → f [.pen, .lst (fs.map .str), .int m] Q X n s
theorem clo_cont {k : Nat} {x : Cont} : clo k x.d = true := by
  cases x with
  | node j => exact clo_tup (by unfold clos; rw [clo_str]; unfold clos; rw [clo_int]; rfl)
  | _ => unfold Cont.d clo; rfl
theorem clo_row {k : Nat} {r : Row} : clo k (rowD r) = true := clo_tup (clos_map (fun _ => clo_cont) _)
theorem each_cont {m : Nat} {vs : List D} (h : ∀ v ∈ vs, ∃ x : Cont, v = x.d ∧ x.ok m) : ∃ r : Row, vs = r.map Cont.d ∧ ∀ x ∈ r, x.ok m := by
  induction vs with
  | nil => exact ⟨[], rfl, fun x hx => nomatch hx⟩
  | cons v vs ih =>
    obtain ⟨x, rfl, hx⟩ := h v List.mem_cons_self
    obtain ⟨r, rfl, hr⟩ := ih fun w hw => h w (List.mem_cons_of_mem _ hw)
    refine ⟨x :: r, rfl, fun y hy => ?_⟩
    rcases List.mem_cons.mp hy with rfl | hy
    · exact hx
    · exact hr y hy
theorem rows_ok {fc : FV} (hc : SContent fc) : SRows (v__law_rows fc) := fun fs m Q X n s hm hf hn q => by
  refine ⟨rfl, ?_⟩
  (conv => whnf)
  refine ⟨⟨by omega, by omega⟩, ?_⟩
  (conv => whnf)
  refine for_ok (fun i η n' s' => ∃ rs o4, η = [some .pen, some (.lst (fs.map .str)), some (.int m), some (.ref s.length), o4, none] ∧ s' = s ++ [.lst (rs.map rowD)] ∧ rs.length = i ∧ RowsOk m fs.length rs ∧ n' ≤ n + i * 70) ⟨[], none, rfl, rfl, rfl, (fun x hx => nomatch hx), by omega⟩ (fun i u η n' s' K hu hI k1 _ _ _ => ?_) fun η n' s' hI => ?_
  · obtain ⟨rs, o4, rfl, rfl, e1, e2, e3⟩ := hI
    obtain ⟨hi, rfl⟩ := rng_at hu
    (conv => whnf)
    refine ⟨⟨_, st_new⟩, ?_⟩
    (conv => whnf)
    refine ⟨small_line (by rw [List.length_map]; omega), ?_⟩
    (conv => whnf)
    refine comp_each (fun v => ∃ x : Cont, v = x.d ∧ x.ok m) 7 (fun u n2 K hu hn2 hK => ?_) fun vs n2 hl hP hn2 => ?_
    · obtain ⟨y, hy, rfl⟩ := List.mem_map.mp hu
      rw [List.length_map] at hn2
      (conv => whnf)
      refine vcase_t ?_; (conv => whnf)
      refine hc _ _ _ _ _ (by omega) (by omega) fun x n3 hx hn3 => ?_
      (conv => whnf)
      exact hK _ _ ⟨x, rfl, hx⟩ hn3
    · obtain ⟨r, rfl, hr⟩ := each_cont hP
      rw [List.length_map] at hl hn2
      rw [List.length_map] at hl
      (conv => whnf)
      refine ⟨_, st_new, small_line' (by rw [List.length_map]; omega), ?_⟩
      rw [st_set]
      (conv => whnf)
      refine k1 _ _ _ ⟨rs ++ [r], _, rfl, by simp [rowD], by simp [e1], fun w hw => ?_, by omega⟩
      rcases List.mem_append.mp hw with hw | hw
      · exact e2 w hw
      · rw [List.mem_singleton.mp hw]; exact ⟨hl, hr⟩
  · obtain ⟨rs, o4, rfl, rfl, e1, e2, e3⟩ := hI
    rw [rng_len] at e1 e3
    (conv => whnf)
    refine ⟨_, st_new, ?_⟩
    rw [st_set]
    (conv => whnf)
    refine ⟨[.ded], rfl, clo_lst (clos_map (fun _ => clo_row) _), ?_⟩
    exact q rs n' (by simpa using e1) e2 (by simpa using e3)
def SFields (f : FV) : Prop := ∀ (Q : D → Nat → DS → Prop) (X : XQ) n s, n < 700000000000 → (∀ xs n', 1 ≤ xs.length → xs.length ≤ 3 → NamesOk' xs → n' ≤ n + 50 → Q (.lst (xs.map .str)) n' s) → f [.pen] Q X n s
theorem fields_ok {fd fn : FV} (hd : SDraw fd) (hs : SNames fn) : SFields (v__law_fields fd fn) := fun Q X n s hn q => by
  refine ⟨rfl, ?_⟩
  (conv => whnf)
  refine hd _ _ _ _ _ (by decide) (by decide) (by omega) fun k n1 k0 k1 hn1 => ?_
  (conv => whnf)
  obtain ⟨j, rfl⟩ : ∃ j : Nat, k = (j : Int) := ⟨k.toNat, by omega⟩
  have e : (1 + (j : Int)) = ((j + 1 : Nat) : Int) := by omega
  rw [e]
  refine hs _ _ _ _ _ (by omega) (by omega) fun xs n' h1 h2 h3 => ?_
  (conv => whnf)
  exact q xs n' (by omega) (by omega) h2 (by omega)
end MV
/-! VM1: what is reached, in plain words. -/
namespace MV
open PySem MP
def succs (r : Row) : List Nat := r.filterMap fun c => match c with
  | .node k => some k
  | _ => none
def addN (f : List Nat) (x : Nat) : List Nat := if x ∈ f then f else f ++ [x]
def addAll (f xs : List Nat) : List Nat := xs.foldl addN f
def rowAt (rows : List Row) (i : Nat) : Row := rows.getD i []
def walk (rows : List Row) : Nat → List Nat → Nat → List Nat
  | 0, f, _ => f
  | k + 1, f, d => match f[d]? with
    | some x => walk rows k (addAll f (succs (rowAt rows x))) (d + 1)
    | none => f
def order (rows : List Row) (nodes : List Nat) : List Nat := walk rows (rows.length + 1) (addAll [] nodes) 0
inductive Rch (rows : List Row) (nodes : List Nat) : Nat → Prop
  | base {x : Nat} (h : x ∈ nodes) : Rch rows nodes x
  | step {x y : Nat} (h : Rch rows nodes x) (e : y ∈ succs (rowAt rows x)) : Rch rows nodes y
theorem mem_addN {f : List Nat} {x y : Nat} : y ∈ addN f x ↔ y ∈ f ∨ y = x := by
  unfold addN
  by_cases h : x ∈ f
  · rw [if_pos h]
    exact ⟨.inl, fun z => z.elim id fun e => e ▸ h⟩
  · rw [if_neg h, List.mem_append, List.mem_singleton]
theorem mem_addAll : ∀ {xs f : List Nat} {y : Nat}, y ∈ addAll f xs ↔ y ∈ f ∨ y ∈ xs
  | [], f, y => by simp [addAll]
  | x :: xs, f, y => by
    show y ∈ addAll (addN f x) xs ↔ _
    rw [mem_addAll, mem_addN, List.mem_cons]
    constructor
    · rintro ((h | h) | h)
      · exact .inl h
      · exact .inr (.inl h)
      · exact .inr (.inr h)
    · rintro (h | h | h)
      · exact .inl (.inl h)
      · exact .inl (.inr h)
      · exact .inr h
theorem nodup_addN {f : List Nat} {x : Nat} (h : f.Nodup) : (addN f x).Nodup := by
  unfold addN
  by_cases hx : x ∈ f
  · rw [if_pos hx]; exact h
  · rw [if_neg hx, List.nodup_append]
    exact ⟨h, by simp, fun a ha b hb => by rw [List.mem_singleton.mp hb]; exact fun z => hx (z ▸ ha)⟩
theorem nodup_addAll : ∀ {xs f : List Nat}, f.Nodup → (addAll f xs).Nodup
  | [], _, h => h
  | x :: xs, f, h => nodup_addAll (xs := xs) (nodup_addN h)
theorem pre_addN {f : List Nat} {x : Nat} : ∃ t, addN f x = f ++ t := by
  unfold addN
  by_cases hx : x ∈ f
  · rw [if_pos hx]; exact ⟨[], by simp⟩
  · rw [if_neg hx]; exact ⟨_, rfl⟩
theorem pre_addAll : ∀ {xs f : List Nat}, ∃ t, addAll f xs = f ++ t
  | [], f => ⟨[], by simp [addAll]⟩
  | x :: xs, f => by
    obtain ⟨t, e⟩ := pre_addN (f := f) (x := x)
    obtain ⟨u, e2⟩ := pre_addAll (xs := xs) (f := addN f x)
    exact ⟨t ++ u, by show addAll (addN f x) xs = _; rw [e2, e, List.append_assoc]⟩
theorem nodup_le {n : Nat} {f : List Nat} (h : f.Nodup) (hn : ∀ x ∈ f, x < n) : f.length ≤ n := by
  by_cases c : f.length ≤ n
  · exact c
  · obtain ⟨a, ha, hx⟩ := pigeon f (List.range n) h (by simp; omega)
    exact absurd (List.mem_range.mpr (hn a ha)) hx
def Wf (n : Nat) (rows : List Row) : Prop := rows.length = n ∧ ∀ r ∈ rows, ∀ x ∈ r, x.ok n
theorem succs_lt {n : Nat} {rows : List Row} (h : Wf n rows) {i y : Nat} (hy : y ∈ succs (rowAt rows i)) : y < n := by
  unfold rowAt at hy
  by_cases hi : i < rows.length
  · have e : rows.getD i [] = rows[i] := by simp [List.getD, hi]
    rw [e] at hy
    unfold succs at hy
    obtain ⟨c, hc, he⟩ := List.mem_filterMap.mp hy
    have ok := h.2 _ (List.getElem_mem hi) c hc
    cases c with
    | node k => cases he; exact ok
    | _ => cases he
  · have e : rows.getD i [] = [] := by simp [List.getD, hi]
    rw [e] at hy
    cases hy
theorem Rch.lt {n : Nat} {rows : List Row} {nodes : List Nat} (h : Wf n rows) (hn : ∀ x ∈ nodes, x < n) {x : Nat} (r : Rch rows nodes x) : x < n := by
  induction r with
  | base hx => exact hn _ hx
  | step _ e _ => exact succs_lt h e
/-- the walk's invariant: found, and done up to d -/
structure Wk (rows : List Row) (nodes f : List Nat) (d n : Nat) : Prop where
  nd : f.Nodup
  lt : ∀ x ∈ f, x < n
  le : d ≤ f.length
  ini : ∀ x ∈ nodes, x ∈ f
  rch : ∀ x ∈ f, Rch rows nodes x
  clo : ∀ i x, i < d → f[i]? = some x → ∀ y ∈ succs (rowAt rows x), y ∈ f
theorem Wk.start {rows : List Row} {nodes : List Nat} {n : Nat} (hn : ∀ x ∈ nodes, x < n) : Wk rows nodes (addAll [] nodes) 0 n :=
  ⟨nodup_addAll .nil, fun x hx => hn x ((mem_addAll.mp hx).elim (fun z => nomatch z) id), Nat.zero_le _, fun x hx => mem_addAll.mpr (.inr hx), fun x hx => .base ((mem_addAll.mp hx).elim (fun z => nomatch z) id), fun i x hi => absurd hi (Nat.not_lt_zero _)⟩
theorem Wk.go {rows : List Row} {nodes f : List Nat} {d n x : Nat} (h : Wf n rows) (w : Wk rows nodes f d n) (e : f[d]? = some x) : Wk rows nodes (addAll f (succs (rowAt rows x))) (d + 1) n := by
  have hx : x ∈ f := List.mem_of_getElem? e
  have hd : d < f.length := (List.getElem?_eq_some_iff.mp e).1
  obtain ⟨t, ht⟩ := pre_addAll (xs := succs (rowAt rows x)) (f := f)
  refine ⟨nodup_addAll w.nd, fun y hy => ?_, by rw [ht, List.length_append]; omega, fun y hy => mem_addAll.mpr (.inl (w.ini y hy)), fun y hy => ?_, fun i y hi hy z hz => ?_⟩
  · rcases mem_addAll.mp hy with hy | hy
    · exact w.lt y hy
    · exact succs_lt h hy
  · rcases mem_addAll.mp hy with hy | hy
    · exact w.rch y hy
    · exact .step (w.rch x hx) hy
  · have hi2 : i < f.length := by omega
    rw [ht, List.getElem?_append_left hi2] at hy
    by_cases hid : i < d
    · exact mem_addAll.mpr (.inl (w.clo i y hid hy z hz))
    · have : i = d := by omega
      subst this
      rw [e] at hy
      cases hy
      exact mem_addAll.mpr (.inr hz)
theorem walk_ok {rows : List Row} {nodes : List Nat} {n : Nat} (h : Wf n rows) : ∀ (k : Nat) (f : List Nat) (d : Nat), Wk rows nodes f d n → n < d + k → ∃ f', walk rows k f d = f' ∧ Wk rows nodes f' f'.length n
  | 0, f, d, w, hk => by
    have := w.le
    have := nodup_le w.nd w.lt
    omega
  | k + 1, f, d, w, hk => by
    unfold walk
    cases e : f[d]? with
    | none =>
      have : d = f.length := by
        have := List.getElem?_eq_none_iff.mp e
        have := w.le
        omega
      subst this
      exact ⟨f, rfl, w⟩
    | some x => exact walk_ok h k _ (d + 1) (w.go h e) (by omega)
theorem order_ok {rows : List Row} {nodes : List Nat} {n : Nat} (h : Wf n rows) (hn : ∀ x ∈ nodes, x < n) : (order rows nodes).Nodup ∧ ∀ x, x ∈ order rows nodes ↔ Rch rows nodes x := by
  obtain ⟨f, e, w⟩ := walk_ok h (rows.length + 1) _ 0 (Wk.start (rows := rows) hn) (by have := h.1; omega)
  unfold order
  rw [e]
  refine ⟨w.nd, fun x => ⟨w.rch x, fun r => ?_⟩⟩
  induction r with
  | base hx => exact w.ini _ hx
  | step _ e ih =>
    obtain ⟨i, hi⟩ := List.getElem?_of_mem ih
    exact w.clo i _ (List.getElem?_eq_some_iff.mp hi).1 hi _ e
/-! sorted -/
theorem mem_insI {x y : Int} : ∀ {l : List Int}, y ∈ insI x l ↔ y = x ∨ y ∈ l
  | [] => by simp [insI]
  | z :: r => by
    unfold insI
    by_cases h : x ≤ z
    · rw [if_pos h, List.mem_cons]
    · rw [if_neg h, List.mem_cons, mem_insI, List.mem_cons]
      constructor
      · rintro (h | h | h)
        · exact .inr (.inl h)
        · exact .inl h
        · exact .inr (.inr h)
      · rintro (h | h | h)
        · exact .inr (.inl h)
        · exact .inl h
        · exact .inr (.inr h)
theorem mem_sortI {y : Int} : ∀ {l : List Int}, y ∈ sortI l ↔ y ∈ l
  | [] => Iff.rfl
  | x :: r => by
    show y ∈ insI x (sortI r) ↔ _
    rw [mem_insI, mem_sortI, List.mem_cons]
theorem insI_lt {x : Int} : ∀ {l : List Int}, l.Pairwise (· < ·) → x ∉ l → (insI x l).Pairwise (· < ·)
  | [], _, _ => by simp [insI]
  | z :: r, h, hx => by
    unfold insI
    rw [List.pairwise_cons] at h
    by_cases c : x ≤ z
    · rw [if_pos c, List.pairwise_cons, List.pairwise_cons]
      have hz : x < z := by
        have : x ≠ z := fun e => hx (e ▸ List.mem_cons_self)
        omega
      refine ⟨fun y hy => ?_, h⟩
      rcases List.mem_cons.mp hy with rfl | hy
      · exact hz
      · have := h.1 y hy
        omega
    · rw [if_neg c, List.pairwise_cons]
      refine ⟨fun y hy => ?_, insI_lt h.2 fun hm => hx (List.mem_cons_of_mem _ hm)⟩
      rcases mem_insI.mp hy with rfl | hy
      · omega
      · exact h.1 y hy
theorem sortI_lt : ∀ {l : List Int}, l.Nodup → (sortI l).Pairwise (· < ·)
  | [], _ => .nil
  | x :: r, h => by
    rw [List.nodup_cons] at h
    exact insI_lt (sortI_lt h.2) fun hm => h.1 (mem_sortI.mp hm)
theorem lt_ext : ∀ {l k : List Int}, l.Pairwise (· < ·) → k.Pairwise (· < ·) → (∀ x, x ∈ l ↔ x ∈ k) → l = k
  | [], [], _, _, _ => rfl
  | [], y :: k, _, _, h => absurd ((h y).mpr List.mem_cons_self) (by simp)
  | x :: l, [], _, _, h => absurd ((h x).mp List.mem_cons_self) (by simp)
  | x :: l, y :: k, h1, h2, h => by
    rw [List.pairwise_cons] at h1 h2
    have e : x = y := by
      have a := (h x).mp List.mem_cons_self
      have b := (h y).mpr List.mem_cons_self
      rcases List.mem_cons.mp a with a | a
      · exact a
      · rcases List.mem_cons.mp b with b | b
        · exact b.symm
        · have := h1.1 y b
          have := h2.1 x a
          omega
    subst e
    rw [lt_ext h1.2 h2.2 fun z => ⟨fun hz => ?_, fun hz => ?_⟩]
    · rcases List.mem_cons.mp ((h z).mp (List.mem_cons_of_mem _ hz)) with e | hz2
      · have := h1.1 z hz
        omega
      · exact hz2
    · rcases List.mem_cons.mp ((h z).mpr (List.mem_cons_of_mem _ hz)) with e | hz2
      · have := h2.1 z hz
        omega
      · exact hz2
def zs (l : List Nat) : List Int := l.map fun k : Nat => (k : Int)
theorem mem_zs {l : List Nat} {x : Int} : x ∈ zs l ↔ ∃ k ∈ l, (k : Int) = x := List.mem_map
theorem zs_nodup {l : List Nat} (h : l.Nodup) : (zs l).Nodup := by
  unfold zs
  rw [List.nodup_iff_pairwise_ne, List.pairwise_map]
  exact List.Pairwise.imp (fun {a b} h e => h (by omega)) (List.nodup_iff_pairwise_ne.mp h)
/-- the nodes of a set, ascending -/
def asc (n : Nat) (p : Nat → Bool) : List Nat := (List.range n).filter p
theorem mem_asc {n : Nat} {p : Nat → Bool} {x : Nat} : x ∈ asc n p ↔ x < n ∧ p x = true := by unfold asc; rw [List.mem_filter, List.mem_range]
theorem asc_lt (n : Nat) (p : Nat → Bool) : (zs (asc n p)).Pairwise (· < ·) := by
  unfold zs asc
  rw [List.pairwise_map]
  exact List.Pairwise.imp (fun {a b} h => by omega) (List.Pairwise.filter p List.pairwise_lt_range)
theorem sortI_asc {n : Nat} {l : List Nat} {p : Nat → Bool} (h : l.Nodup) (hp : ∀ x, x ∈ l ↔ x < n ∧ p x = true) : sortI (zs l) = zs (asc n p) := by
  refine lt_ext (sortI_lt (zs_nodup h)) (asc_lt n p) fun x => ?_
  rw [mem_sortI, mem_zs, mem_zs]
  exact ⟨fun ⟨k, hk, e⟩ => ⟨k, mem_asc.mpr ((hp k).mp hk), e⟩, fun ⟨k, hk, e⟩ => ⟨k, (hp k).mpr (mem_asc.mp hk), e⟩⟩
theorem sortI_id : ∀ {l : List Int}, l.Pairwise (· < ·) → sortI l = l := fun {l} h => lt_ext (sortI_lt (List.Pairwise.imp (fun {a b} h e => by omega) h)) h fun x => mem_sortI
theorem asc_ext {n : Nat} {p q : Nat → Bool} (h : ∀ x, x < n → p x = q x) : asc n p = asc n q := by
  unfold asc
  exact List.filter_congr fun x hx => h x (List.mem_range.mp hx)
/-! the law's own way -/
def wstep (n : Nat) (rows : List Row) (f : List Nat) : List Nat := asc n fun x => decide (x ∈ f) || decide (x ∈ f.flatMap fun y => succs (rowAt rows y))
def ways (n : Nat) (rows : List Row) (f : List Nat) : Nat → List Nat
  | 0 => f
  | k + 1 => wstep n rows (ways n rows f k)
theorem asc_le {n : Nat} {p : Nat → Bool} : (asc n p).length ≤ n := by
  unfold asc
  exact Nat.le_trans (List.length_filter_le _ _) (by simp)
theorem mem_wstep {n : Nat} {rows : List Row} {f : List Nat} {x : Nat} : x ∈ wstep n rows f ↔ x < n ∧ (x ∈ f ∨ ∃ y ∈ f, x ∈ succs (rowAt rows y)) := by
  unfold wstep
  rw [mem_asc, Bool.or_eq_true, decide_eq_true_iff, decide_eq_true_iff, List.mem_flatMap]
theorem nodup_asc {n : Nat} {p : Nat → Bool} : (asc n p).Nodup := List.Nodup.sublist List.filter_sublist List.nodup_range
/-- closed, or as many as the turns -/
theorem ways_grow {n : Nat} {rows : List Row} (h : Wf n rows) {f : List Nat} (hf : ∀ x ∈ f, x < n) (hd : f.Nodup) : ∀ k, (∀ x ∈ ways n rows f k, x < n) ∧ (ways n rows f k).Nodup ∧ (k ≤ (ways n rows f k).length ∨ ∀ x ∈ ways n rows f k, ∀ y ∈ succs (rowAt rows x), y ∈ ways n rows f k)
  | 0 => ⟨hf, hd, .inl (Nat.zero_le _)⟩
  | k + 1 => by
    obtain ⟨a, b, c⟩ := ways_grow h hf hd k
    have sub : ∀ x ∈ ways n rows f k, x ∈ ways n rows f (k + 1) := fun x hx => mem_wstep.mpr ⟨a x hx, .inl hx⟩
    refine ⟨fun x hx => (mem_wstep.mp hx).1, nodup_asc, ?_⟩
    by_cases cl : ∀ x ∈ ways n rows f k, ∀ y ∈ succs (rowAt rows x), y ∈ ways n rows f k
    · right
      intro x hx y hy
      obtain ⟨_, hx⟩ := mem_wstep.mp hx
      have hxk : x ∈ ways n rows f k := by
        rcases hx with hx | ⟨z, hz, hx⟩
        · exact hx
        · exact cl z hz x hx
      exact sub y (cl x hxk y hy)
    · left
      rcases c with c | c
      · have : ∃ x ∈ ways n rows f k, ∃ y ∈ succs (rowAt rows x), y ∉ ways n rows f k := by
          refine Classical.byContradiction fun no => cl fun x hx y hy => Classical.byContradiction fun hn => no ⟨x, hx, y, hy, hn⟩
        obtain ⟨x, hx, y, hy, hn⟩ := this
        have hlen : (y :: ways n rows f k).length ≤ (ways n rows f (k + 1)).length := by
          have hy2 : y ∈ ways n rows f (k + 1) := mem_wstep.mpr ⟨succs_lt h hy, .inr ⟨x, hx, hy⟩⟩
          have nd : (y :: ways n rows f k).Nodup := List.nodup_cons.mpr ⟨hn, b⟩
          by_cases cc : (y :: ways n rows f k).length ≤ (ways n rows f (k + 1)).length
          · exact cc
          · obtain ⟨z, hz, hz2⟩ := pigeon _ (ways n rows f (k + 1)) nd (by omega)
            rcases List.mem_cons.mp hz with rfl | hz
            · exact absurd hy2 hz2
            · exact absurd (sub z hz) hz2
        simp only [List.length_cons] at hlen
        omega
      · exact absurd c cl
theorem ways_ok {n : Nat} {rows : List Row} (h : Wf n rows) {nodes : List Nat} (hn : ∀ x ∈ nodes, x < n) (x : Nat) : x ∈ ways n rows (asc n fun x => decide (x ∈ nodes)) n ↔ Rch rows nodes x := by
  have h0 : ∀ x ∈ asc n fun x => decide (x ∈ nodes), x < n := fun x hx => (mem_asc.mp hx).1
  have hm : ∀ k x, x ∈ ways n rows (asc n fun x => decide (x ∈ nodes)) k → Rch rows nodes x := fun k => by
    induction k with
    | zero => exact fun x hx => .base (of_decide_eq_true (mem_asc.mp hx).2)
    | succ k ih =>
      intro x hx
      obtain ⟨_, hx⟩ := mem_wstep.mp hx
      rcases hx with hx | ⟨y, hy, hx⟩
      · exact ih x hx
      · exact .step (ih y hy) hx
  refine ⟨hm n x, fun r => ?_⟩
  obtain ⟨a, b, c⟩ := ways_grow h h0 nodup_asc n
  have cl : ∀ x ∈ ways n rows (asc n fun x => decide (x ∈ nodes)) n, ∀ y ∈ succs (rowAt rows x), y ∈ ways n rows (asc n fun x => decide (x ∈ nodes)) n := by
    rcases c with c | c
    · intro x hx y hy
      refine Classical.byContradiction fun no => ?_
      obtain ⟨z, hz, hz2⟩ : ∃ z ∈ y :: ways n rows (asc n fun x => decide (x ∈ nodes)) n, z ∉ List.range n := pigeon _ _ (List.nodup_cons.mpr ⟨no, b⟩) (by simp; omega)
      rcases List.mem_cons.mp hz with rfl | hz
      · exact hz2 (List.mem_range.mpr (succs_lt h hy))
      · exact hz2 (List.mem_range.mpr (a z hz))
    · exact c
  have mono : ∀ k x, x ∈ asc n (fun x => decide (x ∈ nodes)) → x ∈ ways n rows (asc n fun x => decide (x ∈ nodes)) k := fun k x hx => by
    induction k with
    | zero => exact hx
    | succ k ih => exact mem_wstep.mpr ⟨h0 x hx, .inl ih⟩
  induction r with
  | base hx => exact mono n _ (mem_asc.mpr ⟨hn _ hx, decide_eq_true hx⟩)
  | step _ e ih => exact cl _ ih _ e
end MV
/-! VL3: heaps. -/
namespace MV
open PySem MP
noncomputable def c_fits_name : SV := zRet (yAnd (yChain vle vle (yC (.int 1)) (yFn vlen [yV 0]) (yC (.int 12))) (yFn vall [yLc (jtV (yV 0)) (.one 1) (uYes) (yOp vin (yV 1) (yC (.str "abcdefghijklmnopqrstuvwxyz")))]))
noncomputable def v_fits_name : FV := vfn 2 1 (c_fits_name)
noncomputable def c_check_names (f_fits_name : FV) : SV := zSeq (zIf (uBl (yOp vgt (yFn vlen [yV 0]) (yV 1))) (zBad) (zNil)) (zFor (jtE (yV 0)) (.many [2, 3]) (zIf (uOr (uNot (uU (yFn f_fits_name [yV 3]))) (uBl (yOp vin (yV 3) (ySl (yFn vlist [yV 0]) none (some (yV 2)))))) (zBad) (zNil)))
noncomputable def v_check_names (f_fits_name : FV) : FV := vfn 4 2 (c_check_names f_fits_name)
noncomputable def c_check_fields (f_check_names : FV) : SV := zSeq (zIf (uNot (uU (yV 0))) (zBad) (zNil)) (zExp (yFn f_check_names [yV 0, yC (.int 3)]))
noncomputable def v_check_fields (f_check_names : FV) : FV := vfn 1 1 (c_check_fields f_check_names)
noncomputable def c_is_node : SV := zRet (yIs ⟨false, false, false, true, false, false, []⟩ (yV 0))
noncomputable def v_is_node : FV := vfn 1 1 (c_is_node)
noncomputable def c_Heap___init__ (f_check_fields f_Heap_may_hold : FV) : SV := zSeq (zExp (yFn f_check_fields [yV 1])) (zSeq (zIf (uBl (yOp vgt (yFn vlen [yV 2]) (yC (.int 400)))) (zBad) (zNil)) (zSeq (zFld [(0, 0)] (yV 0) (yFn vtup [yV 1])) (zSeq (zFld [(0, 1)] (yV 0) (yFn vlen [yV 2])) (zSeq (zFor (jtE (yV 2)) (.many [3, 4]) (zIf (uOr (uBl (yOp vne (yFn vlen [yV 4]) (yFn vlen [yFld [(0, 0)] (yV 0)]))) (uNot (uU (yFn vall [yLc (jtV (yV 4)) (.one 5) (uYes) (yMeth [(0, f_Heap_may_hold)] (yV 0) [yV 5])])))) (zBad) (zNil))) (zFld [(0, 2)] (yV 0) (yFn vtup [yLc (jtV (yV 2)) (.one 4) (uYes) (yFn vtup [yV 4])]))))))
noncomputable def v_Heap___init__ (f_check_fields f_Heap_may_hold : FV) : FV := vfn 6 3 (c_Heap___init__ f_check_fields f_Heap_may_hold)
noncomputable def c_Heap_may_hold (f_is_node : FV) : SV := zRet (yOr (yNot (yFn f_is_node [yV 1])) (yChain vle vlt (yC (.int 0)) (yOp vget (yV 1) (yC (.int 1))) (yFld [(0, 1)] (yV 0))))
noncomputable def v_Heap_may_hold (f_is_node : FV) : FV := vfn 2 2 (c_Heap_may_hold f_is_node)
noncomputable def c_Heap_check : SV := zIf (uNot (uBl (yChain vle vlt (yC (.int 0)) (yV 1) (yFld [(0, 1)] (yV 0))))) (zBad) (zNil)
noncomputable def v_Heap_check : FV := vfn 2 2 (c_Heap_check)
noncomputable def c_Heap_content (f_Heap_check : FV) : SV := zSeq (zExp (yMeth [(0, f_Heap_check)] (yV 0) [yV 1])) (zSeq (zIf (uBl (yOp vnin (yV 2) (yFld [(0, 0)] (yV 0)))) (zBad) (zNil)) (zRet (yOp vget (yOp vget (yFld [(0, 2)] (yV 0)) (yV 1)) (yIdx (yFld [(0, 0)] (yV 0)) [yV 2]))))
noncomputable def v_Heap_content (f_Heap_check : FV) : FV := vfn 3 3 (c_Heap_content f_Heap_check)
noncomputable def c_Heap_in_order (f_Heap_check f_is_node : FV) : SV := zSeq (zTg (.one 2) (yLstM [])) (zSeq (zFor (jtV (yV 1)) (.one 3) (zSeq (zExp (yMeth [(0, f_Heap_check)] (yV 0) [yV 3])) (zIf (uBl (yOp vnin (yV 3) (yV 2))) (zExp (yApp (yV 2) [yV 3])) (zNil)))) (zSeq (zTg (.one 4) (yC (.int 0))) (zSeq (zWhile (uBl (yOp vlt (yV 4) (yFn vlen [yV 2]))) (zSeq (zTg (.one 5) (yOp vget (yFld [(0, 2)] (yV 0)) (yOp vget (yV 2) (yV 4)))) (zSeq (zAug 4 (yC (.int 1))) (zFor (jtV (yV 5)) (.one 6) (zIf (uAnd (uU (yFn f_is_node [yV 6])) (uBl (yOp vnin (yOp vget (yV 6) (yC (.int 1))) (yV 2)))) (zExp (yApp (yV 2) [yOp vget (yV 6) (yC (.int 1))])) (zNil)))))) (zRet (yFrz (yV 2))))))
noncomputable def v_Heap_in_order (f_Heap_check f_is_node : FV) : FV := vpure (vfn 7 2 (c_Heap_in_order f_Heap_check f_is_node))
noncomputable def c_Heap_reached (f_Heap_in_order : FV) : SV := zRet (yFn vtup [yFn vsorted [yMeth [(0, f_Heap_in_order)] (yV 0) [yV 1]]])
noncomputable def v_Heap_reached (f_Heap_in_order : FV) : FV := vfn 2 2 (c_Heap_reached f_Heap_in_order)

/-! names and fields -/
def fitsN (x : Str) : Bool := decide (1 ≤ x.length) && decide (x.length ≤ 12) && x.cps.toList.all fun c => decide (c ∈ ABC.cps.toList)
def SFits (f : FV) : Prop := ∀ (x : Str) (Q : D → Nat → DS → Prop) (X : XQ) n s, x.length ≤ 100000 → Q (.bl (fitsN x)) n s → f [.str x] Q X n s
theorem chr_bls (cs : List Nat) : ((cs.map fun c => D.str (one c)).map fun d => match d with
    | .str w => D.bl (decide (w.cps.toList.headD 0 ∈ ABC.cps.toList))
    | d => d) = (cs.map fun c => decide (c ∈ ABC.cps.toList)).map .bl := by
  rw [List.map_map, List.map_map]
  rfl
theorem fits_ok : SFits v_fits_name := fun x Q X n s hx q => by
  have hl : x.length = x.cps.toList.length := by show x.cps.size = _; simp
  refine ⟨rfl, ?_⟩
  (conv => whnf)
  refine ⟨small_line hx, ?_⟩
  (conv => whnf)
  refine vcase_mk (fun h1 => ?_) fun h1 => ?_
  · (conv => whnf)
    refine vcase_mk (fun h2 => ?_) fun h2 => ?_
    · (conv => whnf)
      refine ⟨small_line (by unfold chrD; rw [List.length_map, ← hl]; exact hx), ?_⟩
      (conv => whnf)
      unfold chrD
      refine map_pure (fun d => match d with
        | .str w => D.bl (decide (w.cps.toList.headD 0 ∈ ABC.cps.toList))
        | d => d) (fun u K hu hK => ?_) ?_
      · obtain ⟨c, hc, rfl⟩ := List.mem_map.mp hu
        (conv => whnf)
        refine vcase_t ?_; (conv => whnf)
        exact ⟨c, rfl, hK⟩
      · (conv => whnf)
        refine ⟨_, chr_bls _, ?_⟩
        have e : fitsN x = (x.cps.toList.map fun c => decide (c ∈ ABC.cps.toList)).all id := by
          unfold fitsN
          have a1 : decide (1 ≤ x.length) = true := decide_eq_true (by have := of_decide_eq_true h1; omega)
          have a2 : decide (x.length ≤ 12) = true := decide_eq_true (by have := of_decide_eq_true h2; omega)
          rw [a1, a2, List.all_map]
          rfl
        rw [e] at q
        exact q
    · have e : fitsN x = false := by
        unfold fitsN
        have a2 : decide (x.length ≤ 12) = false := decide_eq_false (by have := of_decide_eq_false h2; omega)
        rw [a2]
        simp
      rw [e] at q
      (conv => whnf)
      dsimp only
      rw [h2]
      exact q
  · (conv => whnf)
    refine vcase_f ?_; (conv => whnf)
    have e : fitsN x = false := by
      unfold fitsN
      have a2 : decide (1 ≤ x.length) = false := decide_eq_false (by have := of_decide_eq_false h1; omega)
      rw [a2]
      simp
    rw [e] at q
    exact q
theorem WordOk.fits {x : Str} (h : WordOk 12 x) : fitsN x = true := by
  unfold fitsN
  rw [decide_eq_true h.2.1, decide_eq_true (by have := h.2.2; omega), List.all_eq_true.mpr fun c hc => decide_eq_true (h.1 c hc)]
  rfl
theorem WordOk.small {x : Str} (h : WordOk 12 x) : x.length ≤ 100000 := by have := h.2.2; omega
def SCheckN (f : FV) : Prop := ∀ (xs : List Str) (m : Int) (Q : D → Nat → DS → Prop) (X : XQ) n s, (xs.length : Int) ≤ m → xs.length ≤ 1000 → NamesOk' xs → Q .non n s → f [.lst (xs.map .str), .int m] Q X n s
theorem enum_at : ∀ {ds : List D} {k i : Nat} {u : D}, (enumD k ds)[i]? = some u → ∃ d, ds[i]? = some d ∧ u = .tup [.int ((k + i : Nat) : Int), d]
  | [], k, i, u, e => by unfold enumD at e; simp at e
  | d :: ds, k, 0, u, e => by
    unfold enumD at e
    exact ⟨d, rfl, by simpa using e.symm⟩
  | d :: ds, k, i + 1, u, e => by
    unfold enumD at e
    obtain ⟨d', e1, e2⟩ := enum_at (i := i) (by simpa using e)
    refine ⟨d', by simpa using e1, ?_⟩
    rw [e2]
    congr 2
    have : k + 1 + i = k + (i + 1) := by omega
    rw [this]
theorem enum_len : ∀ {ds : List D} {k : Nat}, (enumD k ds).length = ds.length
  | [], _ => rfl
  | d :: ds, k => by unfold enumD; rw [List.length_cons, List.length_cons, enum_len]
theorem cut_take {α : Type} {xs : List α} {i : Nat} (h : i ≤ xs.length) : cutU xs none (some (i : Int)) = xs.take i := by
  unfold cutU
  have e1 : HT.sIx xs.length 0 none = 0 := rfl
  have e2 : HT.sIx xs.length xs.length (some (i : Int)) = i := by
    unfold HT.sIx
    simp only
    split <;> omega
  rw [e1, e2]
  simp
theorem checkn_ok {ff : FV} (hf : SFits ff) : SCheckN (v_check_names ff) := fun xs m Q X n s h1 h2 h3 q => by
  refine ⟨rfl, ?_⟩
  (conv => whnf)
  rw [List.length_map]
  refine vcase_mk (fun hc => absurd (of_decide_eq_true hc) (by omega)) fun _ => ?_
  (conv => whnf)
  refine for_ok (fun i η n' s' => ∃ o2 o3, η = [some (.lst (xs.map .str)), some (.int m), o2, o3] ∧ n' = n ∧ s' = s) ⟨_, _, rfl, rfl, rfl⟩ (fun i u η n' s' K hu hI k1 _ _ _ => ?_) fun η n' s' hI => ?_
  · obtain ⟨o2, o3, rfl, rfl, rfl⟩ := hI
    obtain ⟨d, hd, rfl⟩ := enum_at hu
    rw [List.getElem?_map] at hd
    cases hx : xs[i]? with
    | none => rw [hx] at hd; cases hd
    | some x =>
      rw [hx] at hd
      cases hd
      have hi : i < xs.length := (List.getElem?_eq_some_iff.mp hx).1
      have hw := h3.1 x (List.mem_of_getElem? hx)
      (conv => whnf)
      refine ⟨rfl, ?_⟩
      (conv => whnf)
      refine hf _ _ _ _ _ hw.small ?_
      rw [hw.fits]
      (conv => whnf)
      refine vcase_f ?_; (conv => whnf)
      rw [cut_take (by rw [List.length_map]; omega), ← List.map_take]
      refine ⟨inOk_str, ?_⟩
      (conv => whnf)
      rw [anyD_str]
      refine vcase_mk (fun hc => ?_) fun _ => ?_
      · exfalso
        have hm := of_decide_eq_true hc
        obtain ⟨j, hj⟩ := List.getElem?_of_mem hm
        have hj2 : j < i := by
          have := (List.getElem?_eq_some_iff.mp hj).1
          rw [List.length_take] at this
          omega
        rw [List.getElem?_take, if_pos (by omega)] at hj
        have a1 := (List.getElem?_eq_some_iff.mp hj).2
        have a2 := (List.getElem?_eq_some_iff.mp hx).2
        exact (List.pairwise_iff_getElem.mp h3.2) j i (List.getElem?_eq_some_iff.mp hj).1 hi hj2 (by rw [a1, a2])
      · (conv => whnf)
        exact k1 _ _ _ ⟨_, _, rfl, rfl, rfl⟩
  · obtain ⟨o2, o3, rfl, rfl, rfl⟩ := hI
    exact q
def SCheckF (f : FV) : Prop := ∀ (xs : List Str) (Q : D → Nat → DS → Prop) (X : XQ) n s, 1 ≤ xs.length → xs.length ≤ 3 → NamesOk' xs → Q .non n s → f [.lst (xs.map .str)] Q X n s
theorem checkf_ok {fc : FV} (hc : SCheckN fc) : SCheckF (v_check_fields fc) := fun xs Q X n s h1 h2 h3 q => by
  refine ⟨rfl, ?_⟩
  (conv => whnf)
  have e : (xs.map D.str).isEmpty = false := by cases xs with
    | nil => simp at h1
    | cons => rfl
  rw [e]
  refine vcase_f ?_; (conv => whnf)
  refine hc _ _ _ _ _ _ (by omega) (by omega) h3 ?_
  exact q
/-! contents -/
def Cont.isN : Cont → Bool
  | .node _ => true
  | _ => false
def SIsNode (f : FV) : Prop := ∀ (x : Cont) (Q : D → Nat → DS → Prop) (X : XQ) n s, Q (.bl x.isN) n s → f [x.d] Q X n s
theorem isnode_ok : SIsNode v_is_node := fun x Q X n s q => by
  refine ⟨rfl, ?_⟩
  cases x <;> exact q
/-- a heap's object -/
def heapD (fs : List Str) (rs : List Row) : D := .obj 0 [.tup (fs.map .str), .int rs.length, .tup (rs.map rowD)]
def mayB (m : Nat) : Cont → Bool
  | .node k => decide (k < m)
  | _ => true
/-- on a heap that is made -/
def SMay (f : FV) : Prop := ∀ (x : Cont) (m k : Nat) (a : D) (vs : List D) (Q : D → Nat → DS → Prop) (X : XQ) n s, s[k]? = some (.ins 0 (a :: .int m :: vs)) → Q (.bl (mayB m x)) n s → f [.ref k, x.d] Q X n s
def SMayO (f : FV) : Prop := ∀ (x : Cont) (fs : List Str) (rs : List Row) (Q : D → Nat → DS → Prop) (X : XQ) n s, Q (.bl (mayB rs.length x)) n s → f [heapD fs rs, x.d] Q X n s
theorem may_ok {fi : FV} (hi : SIsNode fi) : SMay (v_Heap_may_hold fi) := fun x m k a vs Q X n s hs q => by
  refine ⟨rfl, ?_⟩
  (conv => whnf)
  refine hi _ _ _ _ _ ?_
  cases x with
  | node j =>
    (conv => whnf)
    refine vcase_f ?_; (conv => whnf)
    refine ⟨_, rfl, ?_⟩
    (conv => whnf)
    refine vcase_mk (fun _ => ?_) fun hc => absurd (of_decide_eq_false hc) (by omega)
    (conv => whnf)
    refine ⟨0, _, 1, .int m, hs, rfl, rfl, ?_⟩
    (conv => whnf)
    have e : decide ((j : Int) < (m : Int)) = mayB m (.node j) := by
      show _ = decide (j < m)
      by_cases h : j < m
      · rw [decide_eq_true h, decide_eq_true (by omega)]
      · rw [decide_eq_false h, decide_eq_false (by omega)]
    dsimp only
    rw [e]
    exact q
  | _ =>
    (conv => whnf)
    refine vcase_t ?_; (conv => whnf)
    exact q
theorem mayo_ok {fi : FV} (hi : SIsNode fi) : SMayO (v_Heap_may_hold fi) := fun x fs rs Q X n s q => by
  refine ⟨rfl, ?_⟩
  (conv => whnf)
  refine hi _ _ _ _ _ ?_
  cases x with
  | node j =>
    (conv => whnf)
    refine vcase_f ?_; (conv => whnf)
    refine ⟨_, rfl, ?_⟩
    (conv => whnf)
    refine vcase_mk (fun _ => ?_) fun hc => absurd (of_decide_eq_false hc) (by omega)
    (conv => whnf)
    have e : decide ((j : Int) < (rs.length : Int)) = mayB rs.length (.node j) := by
      show _ = decide (j < rs.length)
      by_cases h : j < rs.length
      · rw [decide_eq_true h, decide_eq_true (by omega)]
      · rw [decide_eq_false h, decide_eq_false (by omega)]
    dsimp only
    rw [e]
    exact q
  | _ =>
    (conv => whnf)
    refine vcase_t ?_; (conv => whnf)
    exact q
theorem may_all {m : Nat} {r : Row} (h : ∀ x ∈ r, x.ok m) : (r.map (mayB m)).all id = true := by
  rw [List.all_map, List.all_eq_true]
  intro x hx
  have := h x hx
  cases x with
  | node k => exact decide_eq_true this
  | _ => rfl
def SInit (f : FV) : Prop := ∀ (fs : List Str) (rs : List Row) (Q : D → Nat → DS → Prop) (X : XQ) n s, 1 ≤ fs.length → fs.length ≤ 3 → NamesOk' fs → rs.length ≤ 400 → RowsOk rs.length fs.length rs → Q .non n (s ++ [.ins 0 [.tup (fs.map .str), .int rs.length, .tup (rs.map rowD)]]) → f [.ref s.length, .lst (fs.map .str), .lst (rs.map rowD)] Q X n (s ++ [.ins 0 []])
theorem init_ok {fc fm : FV} (hc : SCheckF fc) (hm : SMay fm) : SInit (v_Heap___init__ fc fm) := fun fs rs Q X n s h1 h2 h3 h4 h5 q => by
  refine ⟨rfl, ?_⟩
  (conv => whnf)
  refine hc _ _ _ _ _ h1 h2 h3 ?_
  (conv => whnf)
  rw [List.length_map]
  refine vcase_mk (fun hc => absurd (of_decide_eq_true hc) (by omega)) fun _ => ?_
  (conv => whnf)
  refine ⟨0, _, 0, st_new, rfl, Nat.le_refl _, ?_⟩
  rw [st_set]
  (conv => whnf)
  refine ⟨0, _, 1, st_new, rfl, Nat.le_refl 1, ?_⟩
  rw [st_set, List.length_map]
  (conv => whnf)
  refine for_ok (fun i η n' s' => ∃ o3 o4, η = [some (.ref s.length), some (.lst (fs.map .str)), some (.lst (rs.map rowD)), o3, o4, none] ∧ n' = n ∧ s' = s ++ [.ins 0 [.tup (fs.map .str), .int rs.length]]) ⟨_, _, rfl, rfl, rfl⟩ (fun i u η n' s' K hu hI k1 _ _ _ => ?_) fun η n' s' hI => ?_
  · obtain ⟨o3, o4, rfl, rfl, rfl⟩ := hI
    obtain ⟨d, hd, rfl⟩ := enum_at hu
    rw [List.getElem?_map] at hd
    cases hx : rs[i]? with
    | none => rw [hx] at hd; cases hd
    | some r =>
      rw [hx] at hd
      cases hd
      obtain ⟨r1, r2⟩ := h5 r (List.mem_of_getElem? hx)
      (conv => whnf)
      refine ⟨rfl, ?_⟩
      (conv => whnf)
      refine ⟨0, _, 0, .tup (fs.map .str), st_new, rfl, rfl, ?_⟩
      (conv => whnf)
      refine ⟨rfl, ?_⟩
      (conv => whnf)
      rw [eqD_int, List.length_map, List.length_map, r1, decide_eq_true rfl]
      refine vcase_f ?_; (conv => whnf)
      refine ⟨small_line (by rw [List.length_map]; omega), ?_⟩
      (conv => whnf)
      refine map_pure (fun d => match d with
        | .tup [_, .int k] => .bl (decide (k < (rs.length : Int)))
        | _ => .bl true) (fun u K hu hK => ?_) ?_
      · obtain ⟨x, hx, rfl⟩ := List.mem_map.mp hu
        (conv => whnf)
        refine vcase_t ?_; (conv => whnf)
        refine ⟨0, _, _, st_new, rfl, ?_⟩
        refine hm x rs.length s.length _ _ _ _ _ _ st_new ?_
        have e : (match x.d with
          | .tup [_, .int k] => D.bl (decide (k < (rs.length : Int)))
          | _ => .bl true) = .bl (mayB rs.length x) := by
          cases x with
          | node j =>
            show D.bl (decide ((j : Int) < _)) = D.bl (decide (j < _))
            by_cases h : j < rs.length
            · rw [decide_eq_true h, decide_eq_true (by omega)]
            · rw [decide_eq_false h, decide_eq_false (by omega)]
          | _ => rfl
        rw [e] at hK
        exact hK
      · have e : (r.map Cont.d).map (fun d => match d with
          | .tup [_, .int k] => D.bl (decide (k < (rs.length : Int)))
          | _ => .bl true) = (r.map (mayB rs.length)).map .bl := by
          rw [List.map_map, List.map_map]
          refine List.map_congr_left fun x _ => ?_
          cases x with
          | node j =>
            show D.bl (decide ((j : Int) < _)) = D.bl (decide (j < _))
            by_cases h : j < rs.length
            · rw [decide_eq_true h, decide_eq_true (by omega)]
            · rw [decide_eq_false h, decide_eq_false (by omega)]
          | _ => rfl
        rw [e]
        (conv => whnf)
        refine ⟨_, rfl, ?_⟩
        (conv => whnf)
        rw [may_all r2]
        refine vcase_f ?_; (conv => whnf)
        exact k1 _ _ _ ⟨_, _, rfl, rfl, rfl⟩
  · obtain ⟨o3, o4, rfl, rfl, rfl⟩ := hI
    (conv => whnf)
    refine ⟨small_line (by rw [List.length_map]; omega), ?_⟩
    (conv => whnf)
    refine map_pure (fun d => d) (fun u K hu hK => ?_) ?_
    · obtain ⟨r, hr, rfl⟩ := List.mem_map.mp hu
      (conv => whnf)
      refine vcase_t ?_; (conv => whnf)
      exact hK
    rw [List.map_id']
    (conv => whnf)
    refine ⟨0, _, 2, st_new, rfl, Nat.le_refl 2, ?_⟩
    rw [st_set]
    exact q
/-- Heap(fields, rows) -/
theorem heap_ok {fi : FV} (hi : SInit fi) {fs : List Str} {rs : List Row} {Q : D → Nat → DS → Prop} {X : XQ} {n : Nat} {s : DS} (h1 : 1 ≤ fs.length) (h2 : fs.length ≤ 3) (h3 : NamesOk' fs) (h4 : rs.length ≤ 400) (h5 : RowsOk rs.length fs.length rs) (q : Q (heapD fs rs) n s) : vmk 0 fi [.lst (fs.map .str), .lst (rs.map rowD)] Q X n s := by
  rw [vmk_eq]
  refine hi fs rs _ _ n s h1 h2 h3 h4 h5 ⟨rfl, _, rfl, ?_, q⟩
  unfold clos
  rw [clo_tup (clos_map (fun _ => clo_str) _)]
  unfold clos
  rw [clo_int]
  unfold clos
  rw [clo_tup (clos_map (fun _ => clo_row) _)]
  rfl
end MV
/-! VL4: what is reached. -/
namespace MV
open PySem MP
/-- while: one turn at a time, by a measure -/
theorem while_ok {t : TV} {b : SV} {Q : Gl → Nat → DS → Prop} {X : XQ} (I : Nat → VE → Nat → DS → Prop) (m : Nat) {η : VE} {n : Nat} {s : DS} (h0 : I m η n s)
    (hs : ∀ m η n s, I m η n s → t η (fun c n s => (c = true → b η (whQ I m Q) X n s) ∧ (c = false → Q (.next η) n s)) X n s) : zWhile t b η Q X n s := ⟨I, ⟨m, h0⟩, hs⟩
def nodesD (l : List Nat) : List D := l.map fun k : Nat => .int k
def SCheck (f : FV) : Prop := ∀ (fs : List Str) (rs : List Row) (k : Nat) (Q : D → Nat → DS → Prop) (X : XQ) n s, k < rs.length → Q .non n s → f [heapD fs rs, .int k] Q X n s
theorem check_ok : SCheck v_Heap_check := fun fs rs k Q X n s hk q => by
  refine ⟨rfl, ?_⟩
  (conv => whnf)
  refine vcase_mk (fun _ => ?_) fun hc => absurd (of_decide_eq_false hc) (by omega)
  (conv => whnf)
  rw [decide_eq_true (by omega : (k : Int) < (rs.length : Int))]
  refine vcase_f ?_; (conv => whnf)
  exact q
theorem anyD_nodes (x : Nat) (l : List Nat) : ((nodesD l).any fun z => eqD z (.int x)) = decide (x ∈ l) := by
  unfold nodesD
  induction l with
  | nil => simp
  | cons y l ih =>
    rw [List.map_cons, List.any_cons, ih, eqD_int]
    by_cases e : y = x
    · subst e; simp
    · have e1 : ¬ x = y := fun z => e z.symm
      have e2 : ¬ (y : Int) = x := by omega
      simp [e1, e2]
theorem all_flatN (l : List Nat) : (nodesD l).all flatD = true := by
  rw [List.all_eq_true]
  intro u hu
  obtain ⟨x, _, rfl⟩ := List.mem_map.mp hu
  rfl
theorem inOk_nodes {x : Nat} {l : List Nat} : inOk (.int x) (nodesD l) = true := by unfold inOk; rw [all_flatN]; rfl
theorem nodes_at {l : List Nat} {i x : Nat} (e : l[i]? = some x) : (nodesD l)[i]? = some (.int x) := by unfold nodesD; rw [List.getElem?_map, e]; rfl
theorem nodes_len {l : List Nat} : (nodesD l).length = l.length := by unfold nodesD; simp
theorem nodes_app {l : List Nat} {x : Nat} : nodesD l ++ [.int x] = nodesD (l ++ [x]) := by unfold nodesD; simp
theorem nodes_zs {l : List Nat} : nodesD l = (zs l).map .int := by unfold nodesD zs; rw [List.map_map]; rfl
/-- the nodes of a row, added -/
def addRow (f : List Nat) (r : Row) : List Nat := addAll f (succs r)
theorem addRow_cons {f : List Nat} {c : Cont} {r : Row} : addRow f (c :: r) = addRow (match c with | .node k => addN f k | _ => f) r := by
  unfold addRow succs
  cases c <;> rfl
theorem addRow_app {c : Cont} : ∀ {r : Row} {f : List Nat}, addRow f (r ++ [c]) = (match c with | .node k => addN (addRow f r) k | _ => addRow f r)
  | [], f => by cases c <;> rfl
  | d :: r, f => by
    rw [List.cons_append, addRow_cons, addRow_cons, addRow_app]
theorem addAll_app {f xs : List Nat} {x : Nat} : addAll f (xs ++ [x]) = addN (addAll f xs) x := by unfold addAll; rw [List.foldl_append]; rfl
theorem take_succ' {α : Type} {l : List α} {i : Nat} {x : α} (e : l[i]? = some x) : l.take (i + 1) = l.take i ++ [x] := by rw [List.take_succ, e]; rfl
theorem walk_some {rows : List Row} {k d x : Nat} {f : List Nat} (h : f[d]? = some x) : walk rows (k + 1) f d = walk rows k (addAll f (succs (rowAt rows x))) (d + 1) := by
  conv => lhs; unfold walk
  rw [h]
/-- in_order of a list or a tuple of nodes -/
def SOrder (f : FV) : Prop := ∀ (fs : List Str) (rs : List Row) (nodes : List Nat) (u : D) (Q : D → Nat → DS → Prop) (X : XQ) n s, (u = .lst (nodesD nodes) ∨ u = .tup (nodesD nodes)) → (∀ x ∈ nodes, x < rs.length) → Wf rs.length rs → rs.length ≤ 400 → Q (.lst (nodesD (order rs nodes))) n s → f [heapD fs rs, u] Q X n s
theorem order_v {fc fi : FV} (hc : SCheck fc) (hi : SIsNode fi) : SOrder (v_Heap_in_order fc fi) := fun fs rs nodes u Q X n s hu hn hw h4 q => by
  refine ⟨rfl, ?_⟩
  rcases hu with rfl | rfl
  all_goals
    (conv => whnf)
    refine for_ok (fun i η n' s' => ∃ o1 o3, η = [some (heapD fs rs), o1, some (.ref s.length), o3, none, none, none] ∧ n' = n ∧ s' = s ++ [.lst (nodesD (addAll [] (nodes.take i)))]) ⟨_, _, rfl, rfl, rfl⟩ (fun i v η n' s' K hv hI k1 _ _ _ => ?_) fun η n' s' hI => ?_
    · obtain ⟨o1, o3, rfl, rfl, rfl⟩ := hI
      unfold nodesD at hv
      rw [List.getElem?_map] at hv
      cases hx : nodes[i]? with
      | none => rw [hx] at hv; cases hv
      | some x =>
        rw [hx] at hv
        cases hv
        have hxn := hn x (List.mem_of_getElem? hx)
        (conv => whnf)
        refine hc _ _ _ _ _ _ _ hxn ?_
        (conv => whnf)
        refine ⟨_, st_new, inOk_nodes, ?_⟩
        (conv => whnf)
        rw [anyD_nodes]
        have e1 : addAll [] (nodes.take (i + 1)) = addN (addAll [] (nodes.take i)) x := by rw [take_succ' hx, addAll_app]
        by_cases hm : x ∈ addAll [] (nodes.take i)
        · rw [decide_eq_true hm]
          refine vcase_f ?_; (conv => whnf)
          refine k1 _ _ _ ⟨_, _, rfl, rfl, ?_⟩
          rw [e1]
          unfold addN
          rw [if_pos hm]
        · rw [decide_eq_false hm]
          refine vcase_t ?_; (conv => whnf)
          refine ⟨⟨_, st_new⟩, ?_⟩
          (conv => whnf)
          have hl : (addAll [] (nodes.take i)).length ≤ 400 := by
            have := nodup_le (n := rs.length) (nodup_addAll (xs := nodes.take i) .nil) fun y hy => hn y (List.mem_of_mem_take ((mem_addAll.mp hy).elim (fun z => nomatch z) id))
            omega
          refine ⟨_, st_new, small_line' (by rw [nodes_len]; omega), ?_⟩
          rw [st_set, nodes_app]
          (conv => whnf)
          refine k1 _ _ _ ⟨_, _, rfl, rfl, ?_⟩
          rw [e1]
          unfold addN
          rw [if_neg hm]
    · obtain ⟨o1, o3, rfl, rfl, rfl⟩ := hI
      rw [nodes_len, List.take_length]
      (conv => whnf)
      refine while_ok (fun m η n2 s2 => ∃ f d o1 o3 o5 o6, η = [some (heapD fs rs), o1, some (.ref s.length), o3, some (.int (d : Nat)), o5, o6] ∧ n2 = n' ∧ s2 = s ++ [.lst (nodesD f)] ∧ Wk rs nodes f d rs.length ∧ walk rs m f d = order rs nodes ∧ rs.length < d + m) (rs.length + 1) ⟨_, 0, _, _, _, _, rfl, rfl, rfl, .start hn, rfl, by omega⟩ fun m η n2 s2 hI => ?_
      obtain ⟨f, d, o1, o3, o5, o6, rfl, rfl, rfl, w, hw2, hm⟩ := hI
      (conv => whnf)
      refine ⟨_, st_new, ?_⟩
      (conv => whnf)
      rw [nodes_len]
      refine ⟨fun hc => ?_, fun hc => ?_⟩
      · have hd : d < f.length := by have := of_decide_eq_true hc; omega
        obtain ⟨x, hx⟩ : ∃ x, f[d]? = some x := ⟨_, List.getElem?_eq_getElem hd⟩
        have hxn := w.lt x (List.mem_of_getElem? hx)
        have hlen := nodup_le w.nd w.lt
        cases m with
        | zero => omega
        | succ m =>
        (conv => whnf)
        refine ⟨_, st_new, .int x, ?_, ?_⟩
        · rw [atI_nat]; exact nodes_at hx
        refine ⟨rowD (rowAt rs x), ?_, ?_⟩
        · rw [atI_nat, List.getElem?_map]
          unfold rowAt
          rw [List.getElem?_eq_getElem hxn]
          simp [List.getD, hxn]
        (conv => whnf)
        refine for_ok (fun i η n3 s3 => ∃ o6, η = [some (heapD fs rs), o1, some (.ref s.length), o3, some (.int ((d + 1 : Nat) : Int)), some (rowD (rowAt rs x)), o6] ∧ n3 = n2 ∧ s3 = s ++ [.lst (nodesD (addRow f ((rowAt rs x).take i)))]) ⟨_, rfl, rfl, rfl⟩ (fun i v η n3 s3 K hv hI k1 _ _ _ => ?_) fun η n3 s3 hI => ?_
        · obtain ⟨o6, rfl, rfl, rfl⟩ := hI
          rw [List.getElem?_map] at hv
          cases hx2 : (rowAt rs x)[i]? with
          | none => rw [hx2] at hv; cases hv
          | some c =>
            rw [hx2] at hv
            cases hv
            (conv => whnf)
            refine hi _ _ _ _ _ ?_
            have e2 := addRow_app (c := c) (r := (rowAt rs x).take i) (f := f)
            rw [← take_succ' hx2] at e2
            cases c with
            | node j =>
              (conv => whnf)
              refine vcase_t ?_; (conv => whnf)
              refine ⟨_, atI_nat (j := 1), ?_⟩
              refine ⟨_, st_new, inOk_nodes, ?_⟩
              (conv => whnf)
              rw [anyD_nodes]
              have e3 : addRow f ((rowAt rs x).take (i + 1)) = addN (addRow f ((rowAt rs x).take i)) j := e2
              by_cases hj : j ∈ addRow f ((rowAt rs x).take i)
              · rw [decide_eq_true hj]
                refine vcase_f ?_; (conv => whnf)
                refine k1 _ _ _ ⟨_, rfl, rfl, ?_⟩
                rw [e3]
                unfold addN
                rw [if_pos hj]
              · rw [decide_eq_false hj]
                refine vcase_t ?_; (conv => whnf)
                refine ⟨⟨_, st_new⟩, ?_⟩
                (conv => whnf)
                refine ⟨_, atI_nat (j := 1), ?_⟩
                have hl : (addRow f ((rowAt rs x).take i)).length ≤ 400 := by
                  have hsub : ∀ y ∈ succs ((rowAt rs x).take i), y ∈ succs (rowAt rs x) := fun y hy => by
                    unfold succs at hy ⊢
                    obtain ⟨c, h1, h2⟩ := List.mem_filterMap.mp hy
                    exact List.mem_filterMap.mpr ⟨c, List.mem_of_mem_take h1, h2⟩
                  have := nodup_le (n := rs.length) (f := addRow f ((rowAt rs x).take i)) (nodup_addAll w.nd) fun y hy => by
                    rcases mem_addAll.mp hy with hy | hy
                    · exact w.lt y hy
                    · exact succs_lt hw (hsub y hy)
                  omega
                refine ⟨_, st_new, small_line' (by rw [nodes_len]; omega), ?_⟩
                rw [st_set, nodes_app]
                (conv => whnf)
                refine k1 _ _ _ ⟨_, rfl, rfl, ?_⟩
                rw [e3]
                unfold addN
                rw [if_neg hj]
            | _ =>
              (conv => whnf)
              refine vcase_f ?_; (conv => whnf)
              refine vcase_f ?_; (conv => whnf)
              exact k1 _ _ _ ⟨_, rfl, rfl, by rw [e2]⟩
        · obtain ⟨o6, rfl, rfl, rfl⟩ := hI
          rw [List.length_map, List.take_length]
          have w2 := w.go hw hx
          refine ⟨m, Nat.lt_succ_self m, _, d + 1, _, _, _, _, rfl, rfl, rfl, w2, ?_, by omega⟩
          rw [← hw2, walk_some hx]
          rfl
      · have hd : ¬ d < f.length := by have := of_decide_eq_false hc; omega
        have e1 : walk rs m f d = f := by
          have hn2 : f[d]? = none := List.getElem?_eq_none_iff.mpr (by omega)
          cases m with
          | zero => rfl
          | succ m => unfold walk; rw [hn2]
        rw [e1] at hw2
        subst hw2
        (conv => whnf)
        refine ⟨_, st_new, ?_⟩
        rw [st_set]
        refine ⟨[.ded], rfl, clo_lst (clos_map (fun _ => clo_int) _), q⟩
def SReached (f : FV) : Prop := ∀ (fs : List Str) (rs : List Row) (nodes : List Nat) (u : D) (Q : D → Nat → DS → Prop) (X : XQ) n s, (u = .lst (nodesD nodes) ∨ u = .tup (nodesD nodes)) → (∀ x ∈ nodes, x < rs.length) → Wf rs.length rs → rs.length ≤ 400 → (∀ l : List Nat, l = asc rs.length (fun x => decide (x ∈ l)) → (∀ x, x ∈ l ↔ Rch rs nodes x) → Q (.tup (nodesD l)) n s) → f [heapD fs rs, u] Q X n s
theorem reached_v {fo : FV} (ho : SOrder fo) : SReached (v_Heap_reached fo) := fun fs rs nodes u Q X n s hu hn hw h4 q => by
  refine ⟨rfl, ?_⟩
  (conv => whnf)
  refine ho _ _ _ _ _ _ _ _ hu hn hw h4 ?_
  obtain ⟨o1, o2⟩ := order_ok hw hn
  rw [nodes_zs]
  (conv => whnf)
  refine ⟨_, rfl, ?_⟩
  have hm : ∀ x, x ∈ order rs nodes ↔ x < rs.length ∧ decide (x ∈ order rs nodes) = true := fun x => ⟨fun h => ⟨((o2 x).mp h).lt hw hn, decide_eq_true h⟩, fun h => of_decide_eq_true h.2⟩
  have e := sortI_asc o1 hm
  (conv => whnf)
  rw [e, ← nodes_zs]
  have hl : ∀ x, x ∈ asc rs.length (fun x => decide (x ∈ order rs nodes)) ↔ x ∈ order rs nodes := fun x => mem_asc.trans (hm x).symm
  refine q _ ?_ fun x => (hl x).trans (o2 x)
  exact asc_ext fun x _ => by rw [decide_eq_decide]; exact (hl x).symm
end MV
/-! VL5: further comprehensions, comparisons of data. -/
namespace MV
open PySem MP
theorem rng_filter (p : Nat → Bool) (n : Nat) : ((rngD 0 n).filterMap fun d => match d with
    | .int k => if p k.toNat = true then some (D.int k) else none
    | _ => none) = nodesD (asc n p) := by
  unfold rngD nodesD asc
  rw [List.filterMap_map]
  induction n with
  | zero => rfl
  | succ n ih =>
    rw [List.range_succ, List.filterMap_append, List.filter_append, List.map_append, ih]
    congr 1
    simp only [List.filterMap_cons, List.filterMap_nil, List.filter_cons, List.filter_nil, Function.comp]
    have e : (0 + (n : Int)).toNat = n := by omega
    have e2 : (0 + (n : Int)) = n := by omega
    rw [e, e2]
    by_cases h : p n = true
    · simp [h]
    · simp [h]
/-- [x for x in range(m) if p x] -/
theorem comp_rng {tg : GV} {t : TV} {e : EV} {Q : List D → Nat → DS → Prop} {X : XQ} (p : Nat → Bool) {m : Nat} {η : VE} {n : Nat} {s : DS}
    (hs : ∀ k (K : Option D → Nat → DS → Prop), k < m → K (if p k = true then some (.int k) else none) n s → stepC tg t e (.int k) η K noX n s) (hd : Q (nodesD (asc m p)) n s) : vcompI tg t e (rngD 0 m) η Q X n s := by
  refine comp_pure (fun d => match d with
    | .int k => if p k.toNat = true then some (D.int k) else none
    | _ => none) (fun u K hu hK => ?_) (by rw [rng_filter]; exact hd)
  obtain ⟨i, hi, rfl⟩ := rng_mem hu
  have e1 : (0 + (i : Int)).toNat = i := by omega
  have e2 : (0 + (i : Int)) = i := by omega
  rw [e2]
  refine hs i K hi ?_
  simp only [e1, e2] at hK
  exact hK
theorem eqDs_self (h : ∀ d : D, eqD d d = true) : ∀ l : List D, eqDs l l = true
  | [] => by unfold eqDs; rfl
  | d :: l => by unfold eqDs; rw [h d, eqDs_self h l]; rfl
theorem eqDs_map {α : Type} [DecidableEq α] {f : α → D} (hf : ∀ a b, eqD (f a) (f b) = decide (a = b)) : ∀ l k : List α, eqDs (l.map f) (k.map f) = decide (l = k)
  | [], [] => by unfold eqDs; rfl
  | [], b :: k => by unfold eqDs; rfl
  | a :: l, [] => by unfold eqDs; rfl
  | a :: l, b :: k => by
    rw [List.map_cons, List.map_cons]
    unfold eqDs
    rw [hf, eqDs_map hf l k]
    by_cases h1 : a = b <;> by_cases h2 : l = k <;> simp [h1, h2]
theorem eqD_nat {a b : Nat} : eqD (.int a) (.int b) = decide (a = b) := by
  rw [eqD_int]
  by_cases h : a = b
  · rw [decide_eq_true h, decide_eq_true (by omega)]
  · rw [decide_eq_false h, decide_eq_false (by omega)]
theorem eqD_nodesT {a b : List Nat} : eqD (.tup (nodesD a)) (.tup (nodesD b)) = decide (a = b) := by
  unfold eqD nodesD
  exact eqDs_map (f := fun k : Nat => D.int k) (fun a b => eqD_nat) a b
theorem eqD_nodesL {a b : List Nat} : eqD (.lst (nodesD a)) (.lst (nodesD b)) = decide (a = b) := by
  unfold eqD nodesD
  exact eqDs_map (f := fun k : Nat => D.int k) (fun a b => eqD_nat) a b
theorem data_map {α : Type} {f : α → D} {k : Nat} (h : ∀ a, dataD k (f a) = true) (l : List α) : (l.map f).all (dataD k) = true := by
  rw [List.all_eq_true]
  intro u hu
  obtain ⟨x, _, rfl⟩ := List.mem_map.mp hu
  exact h x
theorem data_tup {k : Nat} {xs : List D} (h : xs.all (dataD k) = true) : dataD (k + 1) (.tup xs) = true := by unfold dataD; exact h
theorem data_lst {k : Nat} {xs : List D} (h : xs.all (dataD k) = true) : dataD (k + 1) (.lst xs) = true := by unfold dataD; exact h
theorem data_int {k : Nat} {i : Int} : dataD (k + 1) (.int i) = true := by unfold dataD; rfl
theorem data_nodesT {l : List Nat} : dataD 30 (.tup (nodesD l)) = true := data_tup (data_map (fun _ => data_int) l)
theorem data_nodesL {l : List Nat} : dataD 30 (.lst (nodesD l)) = true := data_lst (data_map (fun _ => data_int) l)
theorem cmp_data {u v : D} (h1 : dataD 30 u = true) (h2 : dataD 30 v = true) : cmpOk u v = true := by unfold cmpOk; rw [h1, h2]; simp
theorem data_cont {k : Nat} {x : Cont} : dataD (k + 2) x.d = true := by
  cases x with
  | node j =>
    refine data_tup ?_
    rw [List.all_cons, List.all_cons, data_int]
    have : dataD (k + 1) (.str "node") = true := by unfold dataD; show PyData.strOk (Str.ofString "node") = true; decide +kernel
    rw [this]
    rfl
  | _ => unfold Cont.d dataD; rfl
theorem data_row {k : Nat} {r : Row} : dataD (k + 3) (rowD r) = true := data_tup (data_map (fun _ => data_cont) r)
theorem data_rows {rs : List Row} : dataD 30 (.lst (rs.map rowD)) = true := data_lst (data_map (fun _ => data_row) rs)
theorem data_rowsT {rs : List Row} : dataD 30 (.tup (rs.map rowD)) = true := data_tup (data_map (fun _ => data_row) rs)
theorem eqD_cont {a b : Cont} : eqD a.d b.d = decide (a = b) := by
  cases a <;> cases b
  all_goals try (unfold Cont.d eqD; simp; done)
  · show eqD (.int _) (.int _) = _
    rw [eqD_int]
    simp
  · rename_i i j
    show eqD (.tup [.str "node", .int i]) (.tup [.str "node", .int j]) = _
    unfold eqD eqDs eqDs eqDs
    rw [eqD_str, eqD_nat]
    simp
theorem eqD_row {a b : Row} : eqD (rowD a) (rowD b) = decide (a = b) := by
  unfold rowD eqD
  exact eqDs_map (fun a b => eqD_cont) a b
theorem eqD_rowsL {a b : List Row} : eqD (.lst (a.map rowD)) (.lst (b.map rowD)) = decide (a = b) := by
  unfold eqD
  exact eqDs_map (fun a b => eqD_row) a b
theorem eqD_rowsT {a b : List Row} : eqD (.tup (a.map rowD)) (.tup (b.map rowD)) = decide (a = b) := by
  unfold eqD
  exact eqDs_map (fun a b => eqD_row) a b
theorem each_nodes {m : Nat} {vs : List D} (h : ∀ v ∈ vs, ∃ k : Nat, v = .int k ∧ k < m) : ∃ l : List Nat, vs = nodesD l ∧ ∀ x ∈ l, x < m := by
  induction vs with
  | nil => exact ⟨[], rfl, fun x hx => nomatch hx⟩
  | cons v vs ih =>
    obtain ⟨x, rfl, hx⟩ := h v List.mem_cons_self
    obtain ⟨r, rfl, hr⟩ := ih fun w hw => h w (List.mem_cons_of_mem _ hw)
    refine ⟨x :: r, rfl, fun y hy => ?_⟩
    rcases List.mem_cons.mp hy with rfl | hy
    · exact hx
    · exact hr y hy
theorem asc_self {n : Nat} {p : Nat → Bool} : asc n p = asc n fun x => decide (x ∈ asc n p) := asc_ext fun x hx => by
  by_cases h : p x = true
  · rw [h, decide_eq_true (mem_asc.mpr ⟨hx, h⟩)]
  · rw [decide_eq_false (fun z => h (mem_asc.mp z).2)]
    simpa using h
theorem asc_same {n : Nat} {l k : List Nat} (hl : l = asc n fun x => decide (x ∈ l)) (hk : k = asc n fun x => decide (x ∈ k)) (h : ∀ x, x ∈ l ↔ x ∈ k) : l = k := by
  rw [hl, hk]
  exact asc_ext fun x _ => by rw [decide_eq_decide]; exact h x
theorem Rch.app {rows : List Row} {a b : List Nat} {x : Nat} : Rch rows (a ++ b) x ↔ Rch rows a x ∨ Rch rows b x := by
  constructor
  · intro h
    induction h with
    | base hx =>
      rcases List.mem_append.mp hx with h | h
      · exact .inl (.base h)
      · exact .inr (.base h)
    | step _ e ih =>
      rcases ih with h | h
      · exact .inl (.step h e)
      · exact .inr (.step h e)
  · rintro (h | h)
    · induction h with
      | base hx => exact .base (List.mem_append_left _ hx)
      | step _ e ih => exact .step ih e
    · induction h with
      | base hx => exact .base (List.mem_append_right _ hx)
      | step _ e ih => exact .step ih e
theorem Rch.idem {rows : List Row} {a b : List Nat} (h : ∀ x, x ∈ b ↔ Rch rows a x) {x : Nat} : Rch rows b x ↔ Rch rows a x := by
  constructor
  · intro r
    induction r with
    | base hx => exact (h _).mp hx
    | step _ e ih => exact .step ih e
  · intro r
    exact .base ((h x).mpr r)
theorem Rch.none {rows : List Row} {x : Nat} : ¬ Rch rows [] x := by
  intro h
  induction h with
  | base hx => cases hx
  | step _ _ ih => exact ih
theorem succs_len {r : Row} : (succs r).length ≤ r.length := by unfold succs; exact List.length_filterMap_le _ _
/-- what stands behind the word of a node -/
def nodeK (d : D) : Option D := match d with
  | .tup [_, k] => some k
  | _ => none
theorem row_succs (r : Row) : (r.map Cont.d).filterMap nodeK = nodesD (succs r) := by
  unfold succs nodesD
  rw [List.filterMap_map, List.map_filterMap]
  congr 1
  funext c
  cases c <;> rfl
theorem rowAt_ok {n w : Nat} {rs : List Row} (h : RowsOk n w rs) (i : Nat) : (rowAt rs i).length ≤ w ∧ ∀ x ∈ rowAt rs i, x.ok n := by
  unfold rowAt
  by_cases hi : i < rs.length
  · have e : rs.getD i [] = rs[i] := by simp [List.getD, hi]
    rw [e]
    obtain ⟨a, b⟩ := h _ (List.getElem_mem hi)
    exact ⟨by omega, b⟩
  · have e : rs.getD i [] = [] := by simp [List.getD, hi]
    rw [e]
    exact ⟨Nat.zero_le _, fun x hx => nomatch hx⟩
theorem RowsOk.wf {w : Nat} {rs : List Row} (h : RowsOk rs.length w rs) : Wf rs.length rs := ⟨rfl, fun r hr => (h r hr).2⟩
theorem flat_len {w : Nat} {f : Nat → List Nat} (h : ∀ x, (f x).length ≤ w) : ∀ l : List Nat, (l.flatMap f).length ≤ l.length * w
  | [] => by simp
  | x :: l => by
    rw [List.flatMap_cons, List.length_append, List.length_cons, Nat.succ_mul]
    have := flat_len h l
    have := h x
    omega
end MV
/-! VL6: heaps made of lists or tuples, and changed. -/
namespace MV
open PySem MP
noncomputable def c__law_same : SV := zSeq (zIf (uOr (uNot (uU (yIs ⟨false, false, false, false, false, false, [(0, true)]⟩ (yV 0)))) (uOr (uBl (yOp vne (yFld [(0, 0)] (yV 0)) (yFn vtup [yV 1]))) (uBl (yOp vne (yFld [(0, 1)] (yV 0)) (yFn vlen [yV 2]))))) (zRet (yC (.bl false))) (zNil)) (zRet (yOp veq (yFld [(0, 2)] (yV 0)) (yFn vtup [yV 2])))
noncomputable def v__law_same : FV := vfn 3 3 (c__law_same)
noncomputable def c_Heap_with_content (f_Heap_content f_Heap_may_hold f_Heap___init__ : FV) : SV := zSeq (zExp (yMeth [(0, f_Heap_content)] (yV 0) [yV 1, yV 2])) (zSeq (zIf (uNot (uU (yMeth [(0, f_Heap_may_hold)] (yV 0) [yV 3]))) (zBad) (zNil)) (zSeq (zTg (.one 4) (yLc (jtV (yFld [(0, 2)] (yV 0))) (.one 5) (uYes) (yFn vlistM [yV 5]))) (zSeq (zPut (yOp vget (yV 4) (yV 1)) (yIdx (yFld [(0, 0)] (yV 0)) [yV 2]) (yV 3)) (zRet (yFn (vmk 0 f_Heap___init__) [yFld [(0, 0)] (yV 0), yFrz2 (yV 4)])))))
noncomputable def v_Heap_with_content (f_Heap_content f_Heap_may_hold f_Heap___init__ : FV) : FV := vpure (vfn 6 4 (c_Heap_with_content f_Heap_content f_Heap_may_hold f_Heap___init__))
noncomputable def c_Heap_with_node (f_Heap___init__ : FV) : SV := zRet (yFn (vmk 0 f_Heap___init__) [yFld [(0, 0)] (yV 0), yOp vadd (yFn vlist [yFld [(0, 2)] (yV 0)]) (yLst [yV 1])])
noncomputable def v_Heap_with_node (f_Heap___init__ : FV) : FV := vfn 2 2 (c_Heap_with_node f_Heap___init__)

/-- a tuple or a list -/
def seqD (b : Bool) (xs : List D) : D := match b with
  | true => .tup xs
  | false => .lst xs
def rowB (p : Bool × Row) : D := seqD p.1 (p.2.map Cont.d)
def SCheckNG (f : FV) : Prop := ∀ (b : Bool) (xs : List Str) (m : Int) (Q : D → Nat → DS → Prop) (X : XQ) n s, (xs.length : Int) ≤ m → xs.length ≤ 1000 → NamesOk' xs → Q .non n s → f [seqD b (xs.map .str), .int m] Q X n s
theorem checknG_ok {ff : FV} (hf : SFits ff) : SCheckNG (v_check_names ff) := fun b xs m Q X n s h1 h2 h3 q => by
  refine ⟨rfl, ?_⟩
  cases b
  all_goals
    (conv => whnf)
    rw [List.length_map]
    refine vcase_mk (fun hc => absurd (of_decide_eq_true hc) (by omega)) fun _ => ?_
    (conv => whnf)
    refine for_ok (fun i η n' s' => ∃ b o2 o3, η = [some (seqD b (xs.map .str)), some (.int m), o2, o3] ∧ n' = n ∧ s' = s) (by first | exact ⟨true, _, _, rfl, rfl, rfl⟩ | exact ⟨false, _, _, rfl, rfl, rfl⟩) (fun i u η n' s' K hu hI k1 _ _ _ => ?_) fun η n' s' hI => ?_
    · obtain ⟨b, o2, o3, rfl, rfl, rfl⟩ := hI
      obtain ⟨d, hd, rfl⟩ := enum_at hu
      rw [List.getElem?_map] at hd
      cases hx : xs[i]? with
      | none => rw [hx] at hd; cases hd
      | some x =>
        rw [hx] at hd
        cases hd
        have hi : i < xs.length := (List.getElem?_eq_some_iff.mp hx).1
        have hw := h3.1 x (List.mem_of_getElem? hx)
        (conv => whnf)
        refine ⟨rfl, ?_⟩
        (conv => whnf)
        refine hf _ _ _ _ _ hw.small ?_
        rw [hw.fits]
        (conv => whnf)
        refine vcase_f ?_; (conv => whnf)
        cases b
        all_goals
          (conv => whnf)
          rw [cut_take (by rw [List.length_map]; omega), ← List.map_take]
          refine ⟨inOk_str, ?_⟩
          (conv => whnf)
          rw [anyD_str]
          refine vcase_mk (fun hc => ?_) fun _ => ?_
          · exfalso
            have hm := of_decide_eq_true hc
            obtain ⟨j, hj⟩ := List.getElem?_of_mem hm
            have hj2 : j < i := by
              have := (List.getElem?_eq_some_iff.mp hj).1
              rw [List.length_take] at this
              omega
            rw [List.getElem?_take, if_pos (by omega)] at hj
            have a1 := (List.getElem?_eq_some_iff.mp hj).2
            have a2 := (List.getElem?_eq_some_iff.mp hx).2
            exact (List.pairwise_iff_getElem.mp h3.2) j i (List.getElem?_eq_some_iff.mp hj).1 hi hj2 (by rw [a1, a2])
          · (conv => whnf)
            first | exact k1 _ _ _ ⟨true, _, _, rfl, rfl, rfl⟩ | exact k1 _ _ _ ⟨false, _, _, rfl, rfl, rfl⟩
    · obtain ⟨b, o2, o3, rfl, rfl, rfl⟩ := hI
      exact q
def SCheckFG (f : FV) : Prop := ∀ (b : Bool) (xs : List Str) (Q : D → Nat → DS → Prop) (X : XQ) n s, 1 ≤ xs.length → xs.length ≤ 3 → NamesOk' xs → Q .non n s → f [seqD b (xs.map .str)] Q X n s
theorem checkfG_ok {fc : FV} (hc : SCheckNG fc) : SCheckFG (v_check_fields fc) := fun b xs Q X n s h1 h2 h3 q => by
  refine ⟨rfl, ?_⟩
  have e : (xs.map D.str).isEmpty = false := by cases xs with
    | nil => simp at h1
    | cons => rfl
  cases b
  · (conv => whnf)
    rw [e]
    refine vcase_f ?_; (conv => whnf)
    exact hc false _ _ _ _ _ _ (by omega) (by omega) h3 q
  · (conv => whnf)
    rw [e]
    refine vcase_f ?_; (conv => whnf)
    exact hc true _ _ _ _ _ _ (by omega) (by omega) h3 q
def RowsOkB (n w : Nat) (rs : List (Bool × Row)) : Prop := ∀ p ∈ rs, p.2.length = w ∧ ∀ x ∈ p.2, x.ok n
def SInitG (f : FV) : Prop := ∀ (b : Bool) (fs : List Str) (rs : List (Bool × Row)) (Q : D → Nat → DS → Prop) (X : XQ) n s, 1 ≤ fs.length → fs.length ≤ 3 → NamesOk' fs → rs.length ≤ 400 → RowsOkB rs.length fs.length rs → Q .non n (s ++ [.ins 0 [.tup (fs.map .str), .int rs.length, .tup ((rs.map (·.2)).map rowD)]]) → f [.ref s.length, seqD b (fs.map .str), .lst (rs.map rowB)] Q X n (s ++ [.ins 0 []])
def mayD (m : Nat) (d : D) : D := match d with
  | .tup [_, .int k] => .bl (decide (k < (m : Int)))
  | _ => .bl true
theorem mayD_is {m : Nat} {x : Cont} : mayD m x.d = .bl (mayB m x) := by
  cases x with
  | node j =>
    show D.bl (decide ((j : Int) < _)) = D.bl (decide (j < _))
    by_cases h : j < m
    · rw [decide_eq_true h, decide_eq_true (by omega)]
    · rw [decide_eq_false h, decide_eq_false (by omega)]
  | _ => rfl
theorem mayD_map {m : Nat} {r : Row} : (r.map Cont.d).map (mayD m) = (r.map (mayB m)).map .bl := by
  rw [List.map_map, List.map_map]
  exact List.map_congr_left fun x _ => mayD_is
theorem initG_ok {fc fm : FV} (hc : SCheckFG fc) (hm : SMay fm) : SInitG (v_Heap___init__ fc fm) := fun b fs rs Q X n s h1 h2 h3 h4 h5 q => by
  refine ⟨rfl, ?_⟩
  cases b
  all_goals
    (conv => whnf)
    first | refine hc true _ _ _ _ _ h1 h2 h3 ?_ | refine hc false _ _ _ _ _ h1 h2 h3 ?_
    (conv => whnf)
    rw [List.length_map]
    refine vcase_mk (fun hc => absurd (of_decide_eq_true hc) (by omega)) fun _ => ?_
    (conv => whnf)
    refine ⟨0, _, 0, st_new, rfl, Nat.le_refl _, ?_⟩
    rw [st_set]
    (conv => whnf)
    refine ⟨0, _, 1, st_new, rfl, Nat.le_refl 1, ?_⟩
    rw [st_set, List.length_map]
    (conv => whnf)
    refine for_ok (fun i η n' s' => ∃ o1 o3 o4, η = [some (.ref s.length), o1, some (.lst (rs.map rowB)), o3, o4, none] ∧ n' = n ∧ s' = s ++ [.ins 0 [.tup (fs.map .str), .int rs.length]]) ⟨_, _, _, rfl, rfl, rfl⟩ (fun i u η n' s' K hu hI k1 _ _ _ => ?_) fun η n' s' hI => ?_
    · obtain ⟨o1, o3, o4, rfl, rfl, rfl⟩ := hI
      obtain ⟨d, hd, rfl⟩ := enum_at hu
      rw [List.getElem?_map] at hd
      cases hx : rs[i]? with
      | none => rw [hx] at hd; cases hd
      | some p =>
        rw [hx] at hd
        cases hd
        obtain ⟨r1, r2⟩ := h5 p (List.mem_of_getElem? hx)
        obtain ⟨b, r⟩ := p
        cases b
        all_goals
          (conv => whnf)
          refine ⟨rfl, ?_⟩
          (conv => whnf)
          refine ⟨0, _, 0, .tup (fs.map .str), st_new, rfl, rfl, ?_⟩
          (conv => whnf)
          refine ⟨rfl, ?_⟩
          (conv => whnf)
          rw [eqD_int, List.length_map, List.length_map, r1, decide_eq_true rfl]
          refine vcase_f ?_; (conv => whnf)
          refine ⟨small_line (by rw [List.length_map, r1]; omega), ?_⟩
          (conv => whnf)
          refine map_pure (mayD rs.length) (fun u K hu hK => ?_) ?_
          · obtain ⟨x, hx, rfl⟩ := List.mem_map.mp hu
            (conv => whnf)
            refine vcase_t ?_; (conv => whnf)
            refine ⟨0, _, _, st_new, rfl, ?_⟩
            refine hm x rs.length s.length _ _ _ _ _ _ st_new ?_
            rw [mayD_is] at hK
            exact hK
          · rw [mayD_map]
            (conv => whnf)
            refine ⟨_, rfl, ?_⟩
            (conv => whnf)
            rw [may_all r2]
            refine vcase_f ?_; (conv => whnf)
            exact k1 _ _ _ ⟨_, _, _, rfl, rfl, rfl⟩
    · obtain ⟨o1, o3, o4, rfl, rfl, rfl⟩ := hI
      (conv => whnf)
      refine ⟨small_line (by rw [List.length_map]; omega), ?_⟩
      (conv => whnf)
      refine map_pure (fun d => match d with
        | .lst xs => .tup xs
        | d => d) (fun u K hu hK => ?_) ?_
      · obtain ⟨⟨b, r⟩, hr, rfl⟩ := List.mem_map.mp hu
        cases b
        · (conv => whnf)
          refine vcase_t ?_; (conv => whnf)
          exact hK
        · (conv => whnf)
          refine vcase_t ?_; (conv => whnf)
          exact hK
      have e : (rs.map rowB).map (fun d => match d with
        | .lst xs => D.tup xs
        | d => d) = (rs.map (·.2)).map rowD := by
        rw [List.map_map, List.map_map]
        refine List.map_congr_left fun p _ => ?_
        obtain ⟨b, r⟩ := p
        cases b <;> rfl
      rw [e]
      (conv => whnf)
      refine ⟨0, _, 2, st_new, rfl, Nat.le_refl 2, ?_⟩
      rw [st_set]
      exact q
theorem heapG_ok {fi : FV} (hi : SInitG fi) {b : Bool} {fs : List Str} {rs : List (Bool × Row)} {Q : D → Nat → DS → Prop} {X : XQ} {n : Nat} {s : DS} (h1 : 1 ≤ fs.length) (h2 : fs.length ≤ 3) (h3 : NamesOk' fs) (h4 : rs.length ≤ 400) (h5 : RowsOkB rs.length fs.length rs) (q : Q (heapD fs (rs.map (·.2))) n s) : vmk 0 fi [seqD b (fs.map .str), .lst (rs.map rowB)] Q X n s := by
  rw [vmk_eq]
  refine hi b fs rs _ _ n s h1 h2 h3 h4 h5 ⟨rfl, _, rfl, ?_, ?_⟩
  · unfold clos
    rw [clo_tup (clos_map (fun _ => clo_str) _)]
    unfold clos
    rw [clo_int]
    unfold clos
    rw [clo_tup (clos_map (fun _ => clo_row) _)]
    rfl
  · have e : heapD fs (rs.map (·.2)) = .obj 0 [.tup (fs.map .str), .int rs.length, .tup ((rs.map (·.2)).map rowD)] := by unfold heapD; rw [List.length_map]
    rw [e] at q
    exact q
theorem rows_B {rs : List Row} {b : Bool} : (rs.map fun r => (b, r)).map (·.2) = rs := by rw [List.map_map]; exact List.map_id' _
theorem RowsOk.B {n w : Nat} {rs : List Row} (h : RowsOk n w rs) {b : Bool} : RowsOkB n w (rs.map fun r => (b, r)) := fun p hp => by
  obtain ⟨r, hr, rfl⟩ := List.mem_map.mp hp
  exact h r hr
/-- with_node -/
def SWithN (f : FV) : Prop := ∀ (fs : List Str) (rs : List Row) (b : Bool) (r : Row) (Q : D → Nat → DS → Prop) (X : XQ) n s, 1 ≤ fs.length → fs.length ≤ 3 → NamesOk' fs → rs.length < 400 → RowsOk (rs.length + 1) fs.length (rs ++ [r]) → Q (heapD fs (rs ++ [r])) n s → f [heapD fs rs, rowB (b, r)] Q X n s
theorem withn_ok {fi : FV} (hi : SInitG fi) : SWithN (v_Heap_with_node fi) := fun fs rs b r Q X n s h1 h2 h3 h4 h5 q => by
  refine ⟨rfl, ?_⟩
  (conv => whnf)
  refine ⟨small_line (by simp; omega), ?_⟩
  (conv => whnf)
  have e : rs.map rowD ++ [rowB (b, r)] = (rs.map (fun r => (true, r)) ++ [(b, r)]).map rowB := by rw [List.map_append, List.map_map]; rfl
  have e2 : (rs.map (fun r => (true, r)) ++ [(b, r)]).map (·.2) = rs ++ [r] := by rw [List.map_append, rows_B]; rfl
  rw [e]
  refine heapG_ok hi (b := true) h1 h2 h3 (by simp; omega) (fun p hp => ?_) ?_
  · have hl : (rs.map (fun r => (true, r)) ++ [(b, r)]).length = rs.length + 1 := by simp
    rw [hl]
    rcases List.mem_append.mp hp with hp | hp
    · obtain ⟨r', hr, rfl⟩ := List.mem_map.mp hp
      exact h5 r' (List.mem_append_left _ hr)
    · rw [List.mem_singleton.mp hp]
      exact h5 r (List.mem_append_right _ List.mem_cons_self)
  · rw [e2]
    exact q
theorem RowsOk.more {n m w : Nat} {rs : List Row} (h : RowsOk n w rs) (hm : n ≤ m) : RowsOk m w rs := fun r hr => ⟨(h r hr).1, fun x hx => by
  have := (h r hr).2 x hx
  cases x with
  | node k => exact Nat.lt_of_lt_of_le this hm
  | _ => trivial⟩
/-! a content -/
def SContentH (f : FV) : Prop := ∀ (fs : List Str) (rs : List Row) (k j : Nat) (x : Str) (c : Cont) (Q : D → Nat → DS → Prop) (X : XQ) n s, k < rs.length → fs.Nodup → fs[j]? = some x → (rowAt rs k)[j]? = some c → Q c.d n s → f [heapD fs rs, .int k, .str x] Q X n s
theorem idxD_str {x : Str} : ∀ {fs : List Str} {j : Nat}, fs.Nodup → fs[j]? = some x → idxD (.str x) (fs.map .str) = some j
  | [], j, _, h => by simp at h
  | y :: fs, 0, _, h => by
    have : y = x := by simpa using h
    subst this
    show (if eqD (.str y) (.str y) = true then some 0 else _) = _
    rw [eqD_str, if_pos (by simp)]
  | y :: fs, j + 1, hn, h => by
    have h' : fs[j]? = some x := by simpa using h
    have hne : y ≠ x := fun z => (List.nodup_cons.mp hn).1 (z ▸ List.mem_of_getElem? h')
    show (if eqD (.str y) (.str x) = true then some 0 else (idxD (.str x) (fs.map .str)).map (· + 1)) = _
    rw [eqD_str, if_neg (by simpa using hne), idxD_str (List.nodup_cons.mp hn).2 h']
    rfl
theorem row_at {rs : List Row} {k : Nat} (hk : k < rs.length) : L2.atI (rs.map rowD) (k : Int) = some (rowD (rowAt rs k)) := by
  rw [atI_nat, List.getElem?_map]
  unfold rowAt
  rw [List.getElem?_eq_getElem hk]
  simp [List.getD, hk]
theorem content_v {fc : FV} (hc : SCheck fc) : SContentH (v_Heap_content fc) := fun fs rs k j x c Q X n s hk hn hj hcj q => by
  refine ⟨rfl, ?_⟩
  (conv => whnf)
  refine hc _ _ _ _ _ _ _ hk ?_
  (conv => whnf)
  refine ⟨⟨rfl, all_flatS _⟩, ?_⟩
  (conv => whnf)
  rw [anyD_str, decide_eq_true (List.mem_of_getElem? hj)]
  refine vcase_f ?_; (conv => whnf)
  refine ⟨_, row_at hk, ?_⟩
  (conv => whnf)
  refine ⟨⟨rfl, all_flatS _⟩, j, idxD_str hn hj, ?_⟩
  (conv => whnf)
  refine ⟨c.d, ?_, q⟩
  rw [atI_nat, List.getElem?_map, hcj]
  rfl
/-! lists of lists, changed no more -/
theorem frzs_ok {X : XQ} {n : Nat} : ∀ (L : List (List D)) (pre : DS) (Q : List D → Nat → DS → Prop), Q (L.map .lst) n (pre ++ L.map fun _ => .ded) → vfrzs ((List.range' pre.length L.length).map .ref) Q X n (pre ++ L.map .lst)
  | [], pre, Q, q => q
  | xs :: L, pre, Q, q => by
    show ∃ ys, (pre ++ (xs :: L).map DO.lst)[pre.length]? = some (.lst ys) ∧ _
    refine ⟨xs, by simp, ?_⟩
    have e1 : (pre ++ (xs :: L).map DO.lst).set pre.length .ded = (pre ++ [.ded]) ++ L.map .lst := by simp
    have e2 : pre.length + 1 = (pre ++ [DO.ded]).length := by simp
    rw [e1]
    show vfrzs ((List.range' (pre.length + 1) L.length).map .ref) _ X n _
    rw [e2]
    refine frzs_ok L (pre ++ [.ded]) _ ?_
    have e3 : (pre ++ [DO.ded]) ++ L.map (fun _ => DO.ded) = pre ++ (xs :: L).map fun _ => DO.ded := by simp
    rw [e3]
    exact q
/-- with_content -/
def putC (rs : List Row) (k j : Nat) (c : Cont) : List Row := rs.set k ((rowAt rs k).set j c)
def SWithC (f : FV) : Prop := ∀ (fs : List Str) (rs : List Row) (k j : Nat) (x : Str) (c : Cont) (Q : D → Nat → DS → Prop) (X : XQ) n s, 1 ≤ fs.length → fs.length ≤ 3 → NamesOk' fs → rs.length ≤ 400 → RowsOk rs.length fs.length rs → k < rs.length → fs[j]? = some x → c.ok rs.length → Q (heapD fs (putC rs k j c)) n s → f [heapD fs rs, .int k, .str x, c.d] Q X n s
theorem rows_set {n w k j : Nat} {rs : List Row} {c : Cont} (h : RowsOk n w rs) (hc : c.ok n) (hk : k < rs.length) : RowsOk n w (putC rs k j c) := fun r hr => by
  unfold putC at hr
  rcases List.mem_or_eq_of_mem_set hr with hr | rfl
  · exact h r hr
  · have e : rowAt rs k = rs[k] := by unfold rowAt; simp [List.getD, hk]
    obtain ⟨a, b⟩ := h _ (List.getElem_mem hk)
    rw [e]
    refine ⟨by rw [List.length_set]; exact a, fun x hx => ?_⟩
    rcases List.mem_or_eq_of_mem_set hx with hx | rfl
    · exact b x hx
    · exact hc
theorem ixN_nat {n j : Nat} (hj : j < n) : L2.ixN n (j : Int) = some j := by
  unfold L2.ixN
  rw [if_pos (by omega), if_pos (by omega)]
  rfl
theorem withc_ok {fc fm fi : FV} (hc : SContentH fc) (hm : SMayO fm) (hi : SInitG fi) : SWithC (v_Heap_with_content fc fm fi) := fun fs rs k j x c Q X n s h1 h2 h3 h4 h5 hk hj hok q => by
  refine ⟨rfl, ?_⟩
  have hjl : j < fs.length := (List.getElem?_eq_some_iff.mp hj).1
  have hrk : rowAt rs k = rs[k] := by unfold rowAt; simp [List.getD, hk]
  obtain ⟨rl, _⟩ := h5 _ (List.getElem_mem hk)
  obtain ⟨c0, hc0⟩ : ∃ c0, (rowAt rs k)[j]? = some c0 := ⟨_, List.getElem?_eq_getElem (by rw [hrk, rl]; exact hjl)⟩
  (conv => whnf)
  refine hc _ _ _ _ _ _ _ _ _ _ hk h3.2 hj hc0 ?_
  (conv => whnf)
  refine hm _ _ _ _ _ _ _ ?_
  have em : mayB rs.length c = true := by
    cases c with
    | node i => exact decide_eq_true hok
    | _ => rfl
  rw [em]
  (conv => whnf)
  refine vcase_f ?_; (conv => whnf)
  refine ⟨small_line (by rw [List.length_map]; omega), ?_⟩
  (conv => whnf)
  refine comp_ok (fun i acc n' s' => acc = (List.range' s.length i).map .ref ∧ n' = n ∧ s' = s ++ ((rs.take i).map fun r => r.map Cont.d).map .lst) ⟨rfl, rfl, by simp⟩ (fun i u acc n' s' K hu hI k1 _ => ?_) fun out n' s' hI => ?_
  · obtain ⟨rfl, rfl, rfl⟩ := hI
    rw [List.getElem?_map] at hu
    cases hx : rs[i]? with
    | none => rw [hx] at hu; cases hu
    | some r =>
      rw [hx] at hu
      cases hu
      have hi : i < rs.length := (List.getElem?_eq_some_iff.mp hx).1
      (conv => whnf)
      refine vcase_t ?_; (conv => whnf)
      refine k1 _ _ _ ⟨?_, rfl, ?_⟩
      · rw [List.range'_concat, List.map_append]
        simp
        omega
      · rw [take_succ' hx]
        simp
  · obtain ⟨rfl, rfl, rfl⟩ := hI
    rw [List.length_map, List.take_length]
    (conv => whnf)
    refine ⟨.ref (s.length + k), ?_, ?_⟩
    · rw [atI_nat, List.getElem?_map, List.getElem?_range' hk]
      simp
    (conv => whnf)
    refine ⟨⟨rfl, all_flatS _⟩, j, idxD_str h3.2 hj, ?_⟩
    (conv => whnf)
    refine ⟨(rowAt rs k).map Cont.d, j, ?_, ?_, ?_⟩
    · rw [List.getElem?_append_right (by omega), List.map_map, List.getElem?_map]
      have : s.length + k - s.length = k := by omega
      rw [this, List.getElem?_eq_getElem hk, hrk]
      rfl
    · refine ixN_nat ?_
      rw [List.length_map, hrk, rl]
      exact hjl
    have e1 : (s ++ (rs.map fun r => r.map Cont.d).map DO.lst).set (s.length + k) (.lst (((rowAt rs k).map Cont.d).set j c.d)) = s ++ ((putC rs k j c).map fun r => r.map Cont.d).map DO.lst := by
      rw [List.set_append_right _ _ (by omega)]
      have : s.length + k - s.length = k := by omega
      rw [this]
      unfold putC
      rw [List.map_set, List.map_set, List.map_set]
    rw [e1]
    (conv => whnf)
    have e2 : List.range' s.length rs.length = List.range' s.length ((putC rs k j c).map fun r => r.map Cont.d).length := by unfold putC; simp
    rw [e2]
    refine frzs_ok _ s _ ?_
    have e3 : ((putC rs k j c).map fun r => r.map Cont.d).map D.lst = ((putC rs k j c).map fun r => (false, r)).map rowB := by
      rw [List.map_map, List.map_map]
      rfl
    rw [e3]
    have hl : (putC rs k j c).length = rs.length := by unfold putC; simp
    (conv => whnf)
    refine heapG_ok hi (b := true) h1 h2 h3 (by rw [List.length_map, hl]; exact h4) ?_ ?_
    · rw [List.length_map, hl]
      exact (rows_set h5 hok hk).B
    · rw [rows_B]
      refine ⟨_, rfl, ?_, q⟩
      unfold heapD clo clos
      rw [clo_tup (clos_map (fun _ => clo_str) _)]
      unfold clos
      rw [clo_int]
      unfold clos
      rw [clo_tup (clos_map (fun _ => clo_row) _)]
      rfl
end MV
/-! VL7: what the laws of heaps share. -/
namespace MV
open PySem MP
theorem eqD_strsT {a b : List Str} : eqD (.tup (a.map .str)) (.tup (b.map .str)) = decide (a = b) := by
  unfold eqD
  exact eqDs_map (f := D.str) (fun a b => eqD_str) a b
theorem strOk_word {x : Str} (h : WordOk 12 x) : PyData.strOk x = true := by
  unfold PyData.strOk
  rw [← Array.all_toList, List.all_eq_true]
  intro c hc
  have : ∀ c ∈ ABC.cps.toList, decide (c < 0x110000) = true := by decide +kernel
  exact this c (h.1 c hc)
theorem data_strs {fs : List Str} (h : ∀ x ∈ fs, WordOk 12 x) : dataD 30 (.tup (fs.map .str)) = true := by
  refine data_tup ?_
  rw [List.all_eq_true]
  intro u hu
  obtain ⟨x, hx, rfl⟩ := List.mem_map.mp hu
  unfold dataD
  exact strOk_word (h x hx)
def SSame (f : FV) : Prop := ∀ (fs : List Str) (rs rs' : List Row) (Q : D → Nat → DS → Prop) (X : XQ) n s, NamesOk' fs → Q (.bl (decide (rs = rs'))) n s → f [heapD fs rs, .lst (fs.map .str), .lst (rs'.map rowD)] Q X n s
theorem same_v : SSame v__law_same := fun fs rs rs' Q X n s h3 q => by
  refine ⟨rfl, ?_⟩
  (conv => whnf)
  refine vcase_f ?_; (conv => whnf)
  refine ⟨cmp_data (data_strs h3.1) (data_strs h3.1), ?_⟩
  (conv => whnf)
  rw [eqD_strsT, decide_eq_true rfl]
  refine vcase_f ?_; (conv => whnf)
  refine ⟨rfl, ?_⟩
  (conv => whnf)
  rw [List.length_map, eqD_nat]
  by_cases hl : rs.length = rs'.length
  · rw [decide_eq_true hl]
    refine vcase_f ?_; (conv => whnf)
    refine ⟨cmp_data data_rowsT data_rowsT, ?_⟩
    (conv => whnf)
    rw [eqD_rowsT]
    exact q
  · rw [decide_eq_false hl]
    refine vcase_t ?_; (conv => whnf)
    have : decide (rs = rs') = false := decide_eq_false fun z => hl (by rw [z])
    rw [this] at q
    exact q
theorem cut_drop {α : Type} {xs : List α} {i : Nat} (h : i ≤ xs.length) : cutU xs (some (i : Int)) none = xs.drop i := by
  unfold cutU
  have e1 : HT.sIx xs.length 0 (some (i : Int)) = i := by
    unfold HT.sIx
    simp only
    split <;> omega
  have e2 : HT.sIx xs.length xs.length none = xs.length := rfl
  rw [e1, e2]
  rw [List.take_of_length_le (by rw [List.length_drop]; omega)]
theorem set_cut {α : Type} {xs : List α} {i : Nat} {a : α} (h : i < xs.length) : xs.take i ++ [a] ++ xs.drop (i + 1) = xs.set i a := by
  rw [List.set_eq_take_append_cons_drop, if_pos h]
  simp
end MV
/-! VL8: heaps copied. -/
namespace MV
open PySem MP
noncomputable def c_Heap_copied (f_Heap_in_order f_is_node f_Heap___init__ : FV) : SV := zSeq (zTg (.one 2) (yMeth [(0, f_Heap_in_order)] (yV 0) [yV 1])) (zSeq (zTg (.one 3) (yDc (jtE (yV 2)) (.many [6, 5]) (uYes) (yV 5) (yOp vadd (yFld [(0, 1)] (yV 0)) (yV 6)))) (zSeq (zTg (.one 4) (yFn vlistM [yFld [(0, 2)] (yV 0)])) (zSeq (zFor (jtV (yV 2)) (.one 5) (zExp (yApp (yV 4) [yFn vtup [yLc (jtV (yOp vget (yFld [(0, 2)] (yV 0)) (yV 5))) (.one 7) (uYes) (yIf (uU (yFn f_is_node [yV 7])) (yTup [yC (.str "node"), yOp vgetD (yV 3) (yOp vget (yV 7) (yC (.int 1)))]) (yV 7))]]))) (zRet (yTup [yFn (vmk 0 f_Heap___init__) [yFld [(0, 0)] (yV 0), yFrz (yV 4)], yFn vtup [yLc (jtV (yV 1)) (.one 5) (uYes) (yOp vgetD (yV 3) (yV 5))]])))))
noncomputable def v_Heap_copied (f_Heap_in_order f_is_node f_Heap___init__ : FV) : FV := vpure (vfn 8 2 (c_Heap_copied f_Heap_in_order f_is_node f_Heap___init__))

/-! dict comprehensions -/
abbrev stepD (tg : GV) (t : TV) (k e : EV) (u : D) (η : VE) : VM (Option (D × D)) := vbnd (tg u η) fun η' => vbnd (t η') fun c => vcase c (vbnd (k η') fun a => vbnd (e η') fun v => vret (some (a, v))) (vret none)
theorem compD_ok {tg : GV} {t : TV} {k e : EV} {Q : KVs → Nat → DS → Prop} {X : XQ} (I : Nat → KVs → Nat → DS → Prop) {us : List D} {η : VE} {n : Nat} {s : DS} (h0 : I 0 [] n s)
    (hs : ∀ i u acc n s (K : Option (D × D) → Nat → DS → Prop), us[i]? = some u → I i acc n s → (∀ j v n' s', I (i + 1) (iput j v acc) n' s' → K (some (.int j, v)) n' s') → (∀ n' s', I (i + 1) acc n' s' → K none n' s') → stepD tg t k e u η K noX n s)
    (hd : ∀ out n s, I us.length out n s → Q out n s) : vcompDI tg t k e us η Q X n s := by
  rw [vcompDI_eq]
  have key : ∀ (us : List D) (m : Nat) (acc : KVs) (n : Nat) (s : DS), I m acc n s →
      (∀ i u acc n s (K : Option (D × D) → Nat → DS → Prop), us[i]? = some u → I (m + i) acc n s → (∀ j v n' s', I (m + i + 1) (iput j v acc) n' s' → K (some (.int j, v)) n' s') → (∀ n' s', I (m + i + 1) acc n' s' → K none n' s') → stepD tg t k e u η K noX n s) →
      (∀ out n s, I (m + us.length) out n s → Q out n s) → vcompDL tg t k e us η acc Q X n s := by
    intro us
    induction us with
    | nil => exact fun m acc n s h0 _ hd => hd acc n s h0
    | cons u us ih =>
      intro m acc n s h0 hs hd
      have go : ∀ acc' n' s', I (m + 0 + 1) acc' n' s' → vcompDL tg t k e us η acc' Q X n' s' := fun acc' n' s' hi => ih (m + 1) acc' n' s' hi (fun i v acc n s K hv hI k1 k2 => by
        have e1 : m + (i + 1) = m + 1 + i := by omega
        have e2 : m + (i + 1) + 1 = m + 1 + i + 1 := by omega
        refine hs (i + 1) v acc n s K (by simpa using hv) (by rw [e1]; exact hI) ?_ ?_
        · rw [e2]; exact k1
        · rw [e2]; exact k2) fun out n s hI => hd out n s (by
        have e : m + (u :: us).length = m + 1 + us.length := by rw [List.length_cons]; omega
        rw [e]
        exact hI)
      exact hs 0 u acc n s (fun o n s => dstep o acc (fun acc => vcompDL tg t k e us η acc) Q X n s) rfl h0 (fun j v n' s' hi => go _ n' s' hi) (fun n' s' hi => go _ n' s' hi)
  exact key us 0 [] n s h0 (fun i u acc n s K hu hI => by
    rw [Nat.zero_add] at hI ⊢
    exact hs i u acc n s K hu hI) fun out n s hI => hd out n s (by rw [Nat.zero_add] at hI; exact hI)
theorem lk_iput {i j : Int} {v : D} : ∀ {acc : KVs}, lkI j ((iput i v acc).map dk) = if i = j then some v else lkI j (acc.map dk)
  | [] => by
    show (if i = j then some v else none) = _
    rfl
  | p :: acc => by
    unfold iput
    by_cases c : p.1 = i
    · rw [if_pos c]
      show (if p.1 = j then some v else lkI j (acc.map dk)) = if i = j then some v else if p.1 = j then some p.2 else lkI j (acc.map dk)
      rw [c]
      split <;> rfl
    · rw [if_neg c]
      show (if p.1 = j then some p.2 else lkI j ((iput i v acc).map dk)) = if i = j then some v else if p.1 = j then some p.2 else lkI j (acc.map dk)
      rw [lk_iput]
      by_cases c2 : p.1 = j
      · rw [if_pos c2, if_neg (fun z => c (by rw [c2, z])), if_pos c2]
      · rw [if_neg c2, if_neg c2]
/-! what a copy is -/
def sh (n : Nat) (o : List Nat) (c : Cont) : Cont := match c with
  | .node k => .node (n + o.idxOf k)
  | c => c
def copyRows (rs : List Row) (o : List Nat) : List Row := rs ++ o.map fun x => (rowAt rs x).map (sh rs.length o)
theorem order_closed {rs : List Row} {nodes : List Nat} (hw : Wf rs.length rs) (hn : ∀ x ∈ nodes, x < rs.length) {x y : Nat} (hx : x ∈ order rs nodes) (hy : y ∈ succs (rowAt rs x)) : y ∈ order rs nodes := by
  obtain ⟨_, h⟩ := order_ok hw hn
  exact (h y).mpr (.step ((h x).mp hx) hy)
theorem mem_succs {r : Row} {k : Nat} (h : Cont.node k ∈ r) : k ∈ succs r := by
  unfold succs
  exact List.mem_filterMap.mpr ⟨_, h, rfl⟩
theorem copy_ok {rs : List Row} {w : Nat} {nodes : List Nat} (hok : RowsOk rs.length w rs) (hw : Wf rs.length rs) (hn : ∀ x ∈ nodes, x < rs.length) : RowsOk (copyRows rs (order rs nodes)).length w (copyRows rs (order rs nodes)) := fun r hr => by
  have el : (copyRows rs (order rs nodes)).length = rs.length + (order rs nodes).length := by unfold copyRows; rw [List.length_append, List.length_map]
  rw [el]
  unfold copyRows at hr
  rcases List.mem_append.mp hr with hr | hr
  · exact hok.more (Nat.le_add_right _ _) r hr
  · obtain ⟨x, hx, rfl⟩ := List.mem_map.mp hr
    have hxn : x < rs.length := (((order_ok hw hn).2 x).mp hx).lt hw hn
    have e : rowAt rs x = rs[x] := by unfold rowAt; simp [List.getD, hxn]
    obtain ⟨a, b⟩ := hok _ (List.getElem_mem hxn)
    refine ⟨by rw [List.length_map, e]; exact a, fun c hc => ?_⟩
    obtain ⟨c', hc', rfl⟩ := List.mem_map.mp hc
    cases c' with
    | node k =>
      have hk := order_closed hw hn hx (mem_succs hc')
      have := List.idxOf_lt_length_of_mem hk
      show rs.length + (order rs nodes).idxOf k < _
      omega
    | _ => trivial
def shD (n : Nat) (o : List Nat) (d : D) : D := match d with
  | .tup [a, .int k] => .tup [a, .int ((n + o.idxOf k.toNat : Nat) : Int)]
  | d => d
theorem shD_d {n : Nat} {o : List Nat} {c : Cont} : shD n o c.d = (sh n o c).d := by
  cases c with
  | node k => rfl
  | _ => rfl
theorem shD_row {n : Nat} {o : List Nat} {r : Row} : (r.map Cont.d).map (shD n o) = (r.map (sh n o)).map Cont.d := by
  rw [List.map_map, List.map_map]
  exact List.map_congr_left fun c _ => shD_d
def freshD (n : Nat) (o : List Nat) (d : D) : D := match d with
  | .int k => .int ((n + o.idxOf k.toNat : Nat) : Int)
  | d => d
theorem clo_heap {k : Nat} {fs : List Str} {rs : List Row} : clo k (heapD fs rs) = true := by
  unfold heapD clo clos
  rw [clo_tup (clos_map (fun _ => clo_str) _)]
  unfold clos
  rw [clo_int]
  unfold clos
  rw [clo_tup (clos_map (fun _ => clo_row) _)]
  rfl
def SCopied (f : FV) : Prop := ∀ (fs : List Str) (rs : List Row) (nodes : List Nat) (Q : D → Nat → DS → Prop) (X : XQ) n s, 1 ≤ fs.length → fs.length ≤ 3 → NamesOk' fs → rs.length ≤ 200 → nodes.length ≤ 1000 → RowsOk rs.length fs.length rs → Wf rs.length rs → (∀ x ∈ nodes, x < rs.length) →
  Q (.tup [heapD fs (copyRows rs (order rs nodes)), .tup (nodesD (nodes.map fun x => rs.length + (order rs nodes).idxOf x))]) n s → f [heapD fs rs, .lst (nodesD nodes)] Q X n s
theorem copied_v {fo fi fh : FV} (ho : SOrder fo) (hi : SIsNode fi) (hh : SInitG fh) : SCopied (v_Heap_copied fo fi fh) := fun fs rs nodes Q X n s h1 h2 h3 h4 hnl hok hw hn q => by
  refine ⟨rfl, ?_⟩
  (conv => whnf)
  refine ho _ _ _ _ _ _ _ _ (.inl rfl) hn hw (by omega) ?_
  have od := (order_ok hw hn).1
  have omem := (order_ok hw hn).2
  have olt : ∀ x ∈ order rs nodes, x < rs.length := fun x hx => ((omem x).mp hx).lt hw hn
  have oclo : ∀ x ∈ order rs nodes, ∀ y ∈ succs (rowAt rs x), y ∈ order rs nodes := fun x hx y hy => order_closed hw hn hx hy
  have oin : ∀ x ∈ nodes, x ∈ order rs nodes := fun x hx => (omem x).mpr (.base hx)
  have ok2 := copy_ok hok hw hn
  generalize order rs nodes = o at od olt oclo oin ok2 q ⊢
  clear omem
  have ol : o.length ≤ rs.length := nodup_le od olt
  (conv => whnf)
  have el : ∀ (k : Nat) (l : List D), (enumD k l).length = l.length := fun k l => by
    induction l generalizing k with
    | nil => rfl
    | cons a l ih => unfold enumD; rw [List.length_cons, List.length_cons, ih]
  refine ⟨small_line (by show (enumD 0 (nodesD o)).length ≤ _; rw [el, nodes_len]; omega), ?_⟩
  (conv => whnf)
  refine compD_ok (fun i acc n' s' => (∀ x ∈ o.take i, lkI (x : Nat) (acc.map dk) = some (.int ((rs.length + o.idxOf x : Nat) : Int))) ∧ n' = n ∧ s' = s) ⟨(fun x hx => by simp at hx), rfl, rfl⟩ (fun i u acc n' s' K hu hI k1 _ => ?_) fun acc n' s' hI => ?_
  · obtain ⟨hI, rfl, rfl⟩ := hI
    obtain ⟨d, hd, rfl⟩ := enum_at hu
    unfold nodesD at hd
    rw [List.getElem?_map] at hd
    cases hx : o[i]? with
    | none => rw [hx] at hd; cases hd
    | some x =>
      rw [hx] at hd
      cases hd
      have hil := (List.getElem?_eq_some_iff.mp hx).1
      have hxe := (List.getElem?_eq_some_iff.mp hx).2
      have hix : o.idxOf x = i := by rw [← hxe]; exact List.Nodup.idxOf_getElem od i hil
      (conv => whnf)
      refine ⟨rfl, ?_⟩
      (conv => whnf)
      refine vcase_t ?_; (conv => whnf)
      refine k1 _ _ _ _ ⟨fun y hy => ?_, rfl, rfl⟩
      rw [lk_iput]
      by_cases c : ((x : Nat) : Int) = (y : Nat)
      · rw [if_pos c]
        have : x = y := by omega
        subst this
        rw [hix]
        congr 2
        show (rs.length : Int) + ((0 + i : Nat) : Int) = _
        omega
      · rw [if_neg c]
        rw [take_succ' hx] at hy
        rcases List.mem_append.mp hy with hy | hy
        · exact hI y hy
        · exact absurd (by rw [List.mem_singleton.mp hy]) c
  obtain ⟨hI, rfl, rfl⟩ := hI
  have hlk : ∀ x ∈ o, lkI (x : Nat) (acc.map dk) = some (.int ((rs.length + o.idxOf x : Nat) : Int)) := fun x hx => hI x (by
    rw [el, nodes_len, List.take_length]
    exact hx)
  clear hI
  (conv => whnf)
  generalize hk : (fun x => (rowAt rs x).map (sh rs.length o)) = cp at *
  refine for_ok (fun i η n'' s'' => ∃ o5 o6 o7, η = [some (heapD fs rs), some (.lst (nodesD nodes)), some (.lst (nodesD o)), some (.ref s'.length), some (.ref (s' ++ [DO.dct (acc.map dk)]).length), o5, o6, o7] ∧ n'' = n' ∧ s'' = (s' ++ [.dct (acc.map dk)]) ++ [.lst ((rs ++ (o.take i).map cp).map rowD)]) ⟨_, _, _, rfl, rfl, by simp⟩ (fun i u η n'' s'' K hu hI k1 _ _ _ => ?_) fun η n'' s'' hI => ?_
  · obtain ⟨o5, o6, o7, rfl, rfl, rfl⟩ := hI
    unfold nodesD at hu
    rw [List.getElem?_map] at hu
    cases hx : o[i]? with
    | none => rw [hx] at hu; cases hu
    | some x =>
      rw [hx] at hu
      cases hu
      have hxo := List.mem_of_getElem? hx
      have hxn := olt x hxo
      have hil := (List.getElem?_eq_some_iff.mp hx).1
      have hrl : (rowAt rs x).length = fs.length := by
        have : rowAt rs x = rs[x] := by unfold rowAt; simp [List.getD, hxn]
        rw [this]
        exact (hok _ (List.getElem_mem hxn)).1
      have hdct : ∀ l, ((s' ++ [DO.dct (acc.map dk)]) ++ [DO.lst l])[s'.length]? = some (.dct (acc.map dk)) := fun l => by
        rw [List.getElem?_append_left (by simp)]
        exact st_new
      (conv => whnf)
      refine ⟨⟨_, st_new⟩, ?_⟩
      (conv => whnf)
      refine ⟨_, row_at hxn, ?_⟩
      (conv => whnf)
      refine ⟨small_line (by rw [List.length_map, hrl]; omega), ?_⟩
      (conv => whnf)
      refine map_pure (shD rs.length o) (fun u K hu hK => ?_) ?_
      · obtain ⟨c, hc, rfl⟩ := List.mem_map.mp hu
        rw [shD_d] at hK
        (conv => whnf)
        refine vcase_t ?_; (conv => whnf)
        refine hi _ _ _ _ _ ?_
        cases c with
        | node j =>
          (conv => whnf)
          refine vcase_t ?_; (conv => whnf)
          refine ⟨_, atI_nat (j := 1), ?_⟩
          refine ⟨_, _, hdct _, hlk j (oclo x hxo j (mem_succs hc)), ?_⟩
          exact hK
        | _ =>
          (conv => whnf)
          refine vcase_f ?_; (conv => whnf)
          exact hK
      rw [shD_row]
      (conv => whnf)
      refine ⟨_, st_new, small_line' (by rw [List.length_map, List.length_append, List.length_map, List.length_take]; omega), ?_⟩
      rw [st_set]
      (conv => whnf)
      refine k1 _ _ _ ⟨_, _, _, rfl, rfl, ?_⟩
      rw [take_succ' hx]
      congr 3
      simp only [List.map_append, List.append_assoc, List.map_cons, List.map_nil, ← hk]
      rfl
  obtain ⟨o5, o6, o7, rfl, rfl, rfl⟩ := hI
  rw [nodes_len, List.take_length]
  have ec : rs ++ o.map cp = copyRows rs o := by rw [← hk]; rfl
  rw [ec]
  (conv => whnf)
  refine ⟨_, st_new, ?_⟩
  rw [st_set]
  (conv => whnf)
  have e3 : (copyRows rs o).map rowD = ((copyRows rs o).map fun r => (true, r)).map rowB := by rw [List.map_map]; rfl
  have hcl : (copyRows rs o).length = rs.length + o.length := by unfold copyRows; rw [List.length_append, List.length_map]
  rw [e3]
  refine heapG_ok hh (b := true) h1 h2 h3 (by rw [List.length_map, hcl]; omega) (by rw [List.length_map]; exact ok2.B) ?_
  rw [rows_B]
  (conv => whnf)
  refine ⟨small_line (by rw [nodes_len]; omega), ?_⟩
  (conv => whnf)
  have hdct : ((s' ++ [DO.dct (acc.map dk)]) ++ [DO.ded])[s'.length]? = some (.dct (acc.map dk)) := by
    rw [List.getElem?_append_left (by simp)]
    exact st_new
  refine map_pure (freshD rs.length o) (fun u K hu hK => ?_) ?_
  · obtain ⟨x, hx, rfl⟩ := List.mem_map.mp hu
    (conv => whnf)
    refine vcase_t ?_; (conv => whnf)
    refine ⟨_, _, hdct, hlk x (oin x hx), ?_⟩
    exact hK
  have e4 : (nodesD nodes).map (freshD rs.length o) = nodesD (nodes.map fun x => rs.length + o.idxOf x) := by
    unfold nodesD
    rw [List.map_map, List.map_map]
    rfl
  rw [e4]
  (conv => whnf)
  refine ⟨[.dct (acc.map dk), .ded], by simp, ?_, q⟩
  unfold clo clos
  rw [clo_heap]
  unfold clos
  have e5 : clo s'.length (.tup (nodesD (nodes.map fun x => rs.length + o.idxOf x))) = true := clo_tup (clos_map (f := fun k : Nat => D.int k) (fun _ => clo_int) _)
  rw [e5]
  rfl
end MV
/-! K10p: the law of heaps copied. -/
namespace MV
open PySem MP
noncomputable def c__law_walk : SV := zSeq (zTg (.one 2) (yLstM [])) (zSeq (zFor (jtV (yV 1)) (.one 3) (zIf (uBl (yOp vnin (yV 3) (yV 2))) (zExp (yApp (yV 2) [yV 3])) (zNil))) (zSeq (zFor (jtR1 (yFn vlen [yV 0])) (.one 4) (zIf (uBl (yOp vlt (yV 4) (yFn vlen [yV 2]))) (zFor (jtV (yOp vget (yV 0) (yOp vget (yV 2) (yV 4)))) (.one 5) (zIf (uAnd (uU (yIs ⟨false, false, false, true, false, false, []⟩ (yV 5))) (uBl (yOp vnin (yOp vget (yV 5) (yC (.int 1))) (yV 2)))) (zTg (.one 2) (yOp vadd (yV 2) (yLst [yOp vget (yV 5) (yC (.int 1))]))) (zNil))) (zNil))) (zRet (yFrz (yV 2)))))
noncomputable def v__law_walk : FV := vpure (vfn 6 2 (c__law_walk))
noncomputable def c_law (f__law_fields f__law_draw f__law_rows f_Heap___init__ f_Heap_copied f__law_walk f__law_same f_Heap_reached : FV) : SV := zSeq (zTg (.one 1) (ypen 0)) (zSeq (zFor (jtR1 (yC (.int 4))) (.one 2) (zSeq (zTg (.one 3) (yFn f__law_fields [yV 1])) (zSeq (zTg (.one 4) (yFn f__law_rows [yV 1, yV 3, yFn f__law_draw [yV 1, yC (.int 13)]])) (zSeq (zTg (.one 5) (yFn (vmk 0 f_Heap___init__) [yV 3, yV 4])) (zSeq (zTg (.one 6) (yLc (jtR1 (yIf (uBl (yOp vne (yV 4) (yLst []))) (yFn f__law_draw [yV 1, yC (.int 5)]) (yC (.int 0)))) (.one 11) (uYes) (yFn f__law_draw [yV 1, yFn vlen [yV 4]]))) (zSeq (zTg (.many [7, 8]) (yMeth [(0, f_Heap_copied)] (yV 5) [yFn vlist [yV 6]])) (zSeq (zTg (.one 9) (yFn f__law_walk [yV 4, yV 6])) (zSeq (zIf (uOr (uNot (uU (yFn f__law_same [yV 5, yV 3, yV 4]))) (uBl (yOp vne (ySl (yFld [(0, 2)] (yV 7)) none (some (yFn vlen [yV 4]))) (yFn vtup [yV 4])))) (zRet (yC (.bl false))) (zNil)) (zSeq (zIf (uOr (uBl (yOp vne (yFld [(0, 1)] (yV 7)) (yOp vadd (yFn vlen [yV 4]) (yFn vlen [yV 9])))) (uBl (yOp vne (yFn vtup [yFn vsorted [yV 9]]) (yMeth [(0, f_Heap_reached)] (yV 5) [yV 6])))) (zRet (yC (.bl false))) (zNil)) (zSeq (zIf (uBl (yOp vne (yV 8) (yFn vtup [yLc (jtV (yV 6)) (.one 14) (uYes) (yOp vadd (yFn vlen [yV 4]) (yIdx (yV 9) [yV 14]))]))) (zRet (yC (.bl false))) (zNil)) (zSeq (zFor (jtR1 (yFn vlen [yV 9])) (.one 10) (zFor (jtR1 (yFn vlen [yV 3])) (.one 11) (zSeq (zTg (.one 12) (yOp vget (yOp vget (yV 4) (yOp vget (yV 9) (yV 10))) (yV 11))) (zSeq (zTg (.one 13) (yIf (uU (yIs ⟨false, false, false, true, false, false, []⟩ (yV 12))) (yTup [yC (.str "node"), yOp vadd (yFn vlen [yV 4]) (yIdx (yV 9) [yOp vget (yV 12) (yC (.int 1))])]) (yV 12))) (zIf (uBl (yOp vne (yOp vget (yOp vget (yFld [(0, 2)] (yV 7)) (yOp vadd (yFn vlen [yV 4]) (yV 10))) (yV 11)) (yV 13))) (zRet (yC (.bl false))) (zNil)))))) (zIf (uBl (yOp vne (yLc (jtV (yMeth [(0, f_Heap_reached)] (yV 7) [yV 8])) (.one 14) (uBl (yOp vlt (yV 14) (yFn vlen [yV 4]))) (yV 14)) (yLst []))) (zRet (yC (.bl false))) (zNil))))))))))))) (zRet (yC (.bl true))))
noncomputable def v_law (f__law_fields f__law_draw f__law_rows f_Heap___init__ f_Heap_copied f__law_walk f__law_same f_Heap_reached : FV) : FV := vfn 15 1 (c_law f__law_fields f__law_draw f__law_rows f_Heap___init__ f_Heap_copied f__law_walk f__law_same f_Heap_reached)

/-! the law's own walk -/
def SWalk (f : FV) : Prop := ∀ (rs : List Row) (nodes : List Nat) (Q : D → Nat → DS → Prop) (X : XQ) n s, (∀ x ∈ nodes, x < rs.length) → Wf rs.length rs → rs.length ≤ 400 → Q (.lst (nodesD (order rs nodes))) n s → f [.lst (rs.map rowD), .lst (nodesD nodes)] Q X n s
theorem walk_none {rows : List Row} {k d : Nat} {f : List Nat} (h : f[d]? = none) : walk rows k f d = f := by
  cases k with
  | zero => rfl
  | succ k => unfold walk; rw [h]
/-- where what is found stands -/
def Fnd (S : DS) (k : Nat) (f : List Nat) (d : D) : Prop := (d = .ref k ∧ S[k]? = some (.lst (nodesD f))) ∨ d = .lst (nodesD f)
theorem row_at' {rs : List Row} {k : Nat} (hk : k < rs.length) : L2.atI (rs.map rowD) (k : Int) = some (rowD (rowAt rs k)) := row_at hk
theorem walk_v : SWalk v__law_walk := fun rs nodes Q X n s hn hw h4 q => by
  refine ⟨rfl, ?_⟩
  (conv => whnf)
  refine for_ok (fun i η n' s' => ∃ o3, η = [some (.lst (rs.map rowD)), some (.lst (nodesD nodes)), some (.ref s.length), o3, none, none] ∧ n' = n ∧ s' = s ++ [.lst (nodesD (addAll [] (nodes.take i)))]) ⟨_, rfl, rfl, rfl⟩ (fun i v η n' s' K hv hI k1 _ _ _ => ?_) fun η n' s' hI => ?_
  · obtain ⟨o3, rfl, rfl, rfl⟩ := hI
    unfold nodesD at hv
    rw [List.getElem?_map] at hv
    cases hx : nodes[i]? with
    | none => rw [hx] at hv; cases hv
    | some x =>
      rw [hx] at hv
      cases hv
      have hxn := hn x (List.mem_of_getElem? hx)
      (conv => whnf)
      refine ⟨_, st_new, inOk_nodes, ?_⟩
      (conv => whnf)
      rw [anyD_nodes]
      have e1 : addAll [] (nodes.take (i + 1)) = addN (addAll [] (nodes.take i)) x := by rw [take_succ' hx, addAll_app]
      by_cases hm : x ∈ addAll [] (nodes.take i)
      · rw [decide_eq_true hm]
        refine vcase_f ?_; (conv => whnf)
        refine k1 _ _ _ ⟨_, rfl, rfl, ?_⟩
        rw [e1]
        unfold addN
        rw [if_pos hm]
      · rw [decide_eq_false hm]
        refine vcase_t ?_; (conv => whnf)
        refine ⟨⟨_, st_new⟩, ?_⟩
        (conv => whnf)
        have hl : (addAll [] (nodes.take i)).length ≤ 400 := by
          have := nodup_le (n := rs.length) (nodup_addAll (xs := nodes.take i) .nil) fun y hy => hn y (List.mem_of_mem_take ((mem_addAll.mp hy).elim (fun z => nomatch z) id))
          omega
        refine ⟨_, st_new, small_line' (by rw [nodes_len]; omega), ?_⟩
        rw [st_set, nodes_app]
        (conv => whnf)
        refine k1 _ _ _ ⟨_, rfl, rfl, ?_⟩
        rw [e1]
        unfold addN
        rw [if_neg hm]
  obtain ⟨o3, rfl, rfl, rfl⟩ := hI
  rw [nodes_len, List.take_length]
  have g1 : (addAll [] nodes).Nodup := nodup_addAll .nil
  have g2 : ∀ x ∈ addAll [] nodes, x < rs.length := fun y hy => hn y ((mem_addAll.mp hy).elim (fun z => nomatch z) id)
  have g3 : walk rs (rs.length + 1) (addAll [] nodes) 0 = order rs nodes := rfl
  generalize addAll [] nodes = g at g1 g2 g3 ⊢
  obtain ⟨S, hS⟩ : ∃ S, S = s ++ [DO.lst (nodesD g)] := ⟨_, rfl⟩
  have hSk : S[s.length]? = some (.lst (nodesD g)) := by rw [hS]; exact st_new
  have hSd : S.set s.length .ded = s ++ [.ded] := by rw [hS, st_set]
  rw [← hS]
  (conv => whnf)
  rw [List.length_map]
  refine ⟨⟨by omega, by omega⟩, ?_⟩
  (conv => whnf)
  refine for_ok (fun i η n'' s'' => ∃ f d o4 o5, η = [some (.lst (rs.map rowD)), some (.lst (nodesD nodes)), some d, o3, o4, o5] ∧ Fnd S s.length f d ∧ f.Nodup ∧ (∀ x ∈ f, x < rs.length) ∧ walk rs (rs.length + 1 - i) f i = order rs nodes ∧ n'' = n' ∧ s'' = S) ⟨g, _, _, _, rfl, .inl ⟨rfl, hSk⟩, g1, g2, g3, rfl, rfl⟩ (fun i u η n'' s'' K hu hI k1 _ _ _ => ?_) fun η n'' s'' hI => ?_
  · obtain ⟨f, d, o4, o5, rfl, hF, f1, f2, f3, rfl, rfl⟩ := hI
    obtain ⟨hi, hu2⟩ := rng_at hu
    rw [Int.zero_add] at hu2
    subst hu2
    have hi : i < rs.length := by omega
    have hfl := nodup_le f1 f2
    have ek : rs.length + 1 - i = (rs.length + 1 - (i + 1)) + 1 := by omega
    rw [ek] at f3
    by_cases hlen : i < f.length
    · obtain ⟨x, hx⟩ : ∃ x, f[i]? = some x := ⟨_, List.getElem?_eq_getElem hlen⟩
      have hxn := f2 x (List.mem_of_getElem? hx)
      rw [walk_some hx] at f3
      have fin : ∀ (η : VE) (o5 : Option D) (d : D), Fnd s'' s.length (addAll f (succs (rowAt rs x))) d → η = [some (.lst (rs.map rowD)), some (.lst (nodesD nodes)), some d, o3, some (.int (i : Nat)), o5] → K (.next η) n'' s'' := fun η o5 d hF he => k1 _ _ _ ⟨_, d, _, o5, he, hF, nodup_addAll f1, fun y hy => (mem_addAll.mp hy).elim (f2 y) (succs_lt hw), f3, rfl, rfl⟩
      rcases hF with ⟨rfl, hfk⟩ | rfl
      all_goals
        (conv => whnf)
        first | (refine ⟨_, hfk, ?_⟩; (conv => whnf)) | skip
        rw [nodes_len, decide_eq_true (by omega)]
        refine vcase_t ?_; (conv => whnf)
        first | refine ⟨_, hfk, .int x, (by rw [atI_nat]; exact nodes_at hx), ?_⟩ | refine ⟨.int x, (by rw [atI_nat]; exact nodes_at hx), ?_⟩
        refine ⟨_, row_at hxn, ?_⟩
        (conv => whnf)
        refine for_ok (fun j η n3 s3 => ∃ d o5, η = [some (.lst (rs.map rowD)), some (.lst (nodesD nodes)), some d, o3, some (.int (i : Nat)), o5] ∧ Fnd s'' s.length (addRow f ((rowAt rs x).take j)) d ∧ n3 = n'' ∧ s3 = s'') ⟨_, _, rfl, (by first | exact .inl ⟨rfl, hfk⟩ | exact .inr rfl), rfl, rfl⟩ (fun j v η n3 s3 K hv hI k1 _ _ _ => ?_) fun η n3 s3 hI => ?_
        · obtain ⟨d, o5, rfl, hF, rfl, rfl⟩ := hI
          rw [List.getElem?_map] at hv
          cases hc : (rowAt rs x)[j]? with
          | none => rw [hc] at hv; cases hv
          | some c =>
            rw [hc] at hv
            cases hv
            have e2 := addRow_app (c := c) (r := (rowAt rs x).take j) (f := f)
            rw [← take_succ' hc] at e2
            cases c with
            | node y =>
              have e3 : addRow f ((rowAt rs x).take (j + 1)) = addN (addRow f ((rowAt rs x).take j)) y := e2
              have hl : (addRow f ((rowAt rs x).take j)).length ≤ 400 := by
                have hsub : ∀ y ∈ succs ((rowAt rs x).take j), y ∈ succs (rowAt rs x) := fun y hy => by
                  unfold succs at hy ⊢
                  obtain ⟨c, h1, h2⟩ := List.mem_filterMap.mp hy
                  exact List.mem_filterMap.mpr ⟨c, List.mem_of_mem_take h1, h2⟩
                have := nodup_le (n := rs.length) (f := addRow f ((rowAt rs x).take j)) (nodup_addAll f1) fun y hy => by
                  rcases mem_addAll.mp hy with hy | hy
                  · exact f2 y hy
                  · exact succs_lt hw (hsub y hy)
                omega
              rcases hF with ⟨rfl, hfk⟩ | rfl
              all_goals
                (conv => whnf)
                refine vcase_t ?_; (conv => whnf)
                refine ⟨_, atI_nat (j := 1), ?_⟩
                first | refine ⟨_, hfk, inOk_nodes, ?_⟩ | refine ⟨inOk_nodes, ?_⟩
                (conv => whnf)
                rw [anyD_nodes]
                by_cases hj : y ∈ addRow f ((rowAt rs x).take j)
                · rw [decide_eq_true hj]
                  refine vcase_f ?_; (conv => whnf)
                  refine k1 _ _ _ ⟨_, _, rfl, ?_, rfl, rfl⟩
                  rw [e3]
                  unfold addN
                  rw [if_pos hj]
                  first | exact .inl ⟨rfl, hfk⟩ | exact .inr rfl
                · rw [decide_eq_false hj]
                  refine vcase_t ?_; (conv => whnf)
                  refine ⟨_, atI_nat (j := 1), ?_⟩
                  first | refine ⟨_, hfk, small_line (by rw [nodes_len]; show _ + 1 ≤ _; omega), ?_⟩ | refine ⟨small_line (by rw [nodes_len]; show _ + 1 ≤ _; omega), ?_⟩
                  (conv => whnf)
                  refine k1 _ _ _ ⟨_, _, rfl, ?_, rfl, rfl⟩
                  rw [e3]
                  unfold addN
                  rw [if_neg hj]
                  exact .inr (congrArg D.lst nodes_app)
            | _ =>
              (conv => whnf)
              refine vcase_f ?_; (conv => whnf)
              refine vcase_f ?_; (conv => whnf)
              exact k1 _ _ _ ⟨_, _, rfl, (by rw [e2]; exact hF), rfl, rfl⟩
        · obtain ⟨d, o5, rfl, hF, rfl, rfl⟩ := hI
          rw [List.length_map, List.take_length] at hF
          exact fin _ _ _ hF rfl
    · have hnone : f[i]? = none := List.getElem?_eq_none_iff.mpr (by omega)
      have hnone2 : f[i + 1]? = none := List.getElem?_eq_none_iff.mpr (by omega)
      rw [walk_none hnone] at f3
      have fin : ∀ (η : VE) (o5 : Option D) (d : D), Fnd s'' s.length f d → η = [some (.lst (rs.map rowD)), some (.lst (nodesD nodes)), some d, o3, some (.int (i : Nat)), o5] → K (.next η) n'' s'' := fun η o5 d hF he => k1 _ _ _ ⟨_, d, _, o5, he, hF, f1, f2, by rw [walk_none hnone2]; exact f3, rfl, rfl⟩
      rcases hF with ⟨rfl, hfk⟩ | rfl
      all_goals
        (conv => whnf)
        first | (refine ⟨_, hfk, ?_⟩; (conv => whnf)) | skip
        rw [nodes_len, decide_eq_false (by omega)]
        refine vcase_f ?_; (conv => whnf)
        exact fin _ _ _ (by first | exact .inl ⟨rfl, hfk⟩ | exact .inr rfl) rfl
  obtain ⟨f, d, o4, o5, rfl, hF, f1, f2, f3, rfl, rfl⟩ := hI
  have hfl := nodup_le f1 f2
  have er : (rngD 0 ((rs.length : Nat) : Int).toNat).length = rs.length := by rw [rng_len]; omega
  rw [er, walk_none (List.getElem?_eq_none_iff.mpr (by omega))] at f3
  rw [← f3] at q
  rcases hF with ⟨rfl, hfk⟩ | rfl
  · (conv => whnf)
    refine ⟨_, hfk, ?_⟩
    rw [hSd]
    exact ⟨[.ded], rfl, clo_lst (clos_map (f := fun k : Nat => D.int k) (fun _ => clo_int) _), q⟩
  · (conv => whnf)
    exact ⟨[.lst (nodesD g)], hS, clo_lst (clos_map (f := fun k : Nat => D.int k) (fun _ => clo_int) _), q⟩
theorem idxD_nodes {x : Nat} : ∀ {l : List Nat}, x ∈ l → idxD (.int x) (nodesD l) = some (l.idxOf x)
  | [], h => nomatch h
  | y :: l, h => by
    show (if eqD (.int y) (.int x) = true then some 0 else (idxD (.int x) (nodesD l)).map (· + 1)) = _
    rw [eqD_nat, List.idxOf_cons]
    by_cases c : y = x
    · rw [decide_eq_true c, if_pos rfl, c, beq_self_eq_true]
      rfl
    · rw [decide_eq_false c, if_neg (by simp)]
      have : (y == x) = false := beq_eq_false_iff_ne.mpr c
      rw [this, idxD_nodes ((List.mem_cons.mp h).resolve_left fun z => c z.symm)]
      rfl
theorem vne_cont {x y : Cont} {K : D → Nat → DS → Prop} {X : XQ} {n : Nat} {s : DS} (q : K (.bl (!decide (x = y))) n s) : vne x.d y.d K X n s := by
  rw [← eqD_cont] at q
  have h : cmpOk x.d y.d = true := cmp_data data_cont data_cont
  cases x <;> cases y <;> exact ⟨h, q⟩
theorem visk_cont {x : Cont} {K : D → Nat → DS → Prop} {X : XQ} {n : Nat} {s : DS} (q : K (.bl x.isN) n s) : visk ⟨false, false, false, true, false, false, []⟩ x.d K X n s := by
  cases x <;> exact q
theorem rowAt_copy {rs : List Row} {o : List Nat} {a x : Nat} (hx : o[a]? = some x) : rowAt (copyRows rs o) (rs.length + a) = (rowAt rs x).map (sh rs.length o) := by
  unfold copyRows
  conv => lhs; unfold rowAt
  rw [List.getD, List.getElem?_append_right (Nat.le_add_right _ _), Nat.add_sub_cancel_left, List.getElem?_map, hx]
  rfl
theorem copy_far {rs : List Row} {o ms : List Nat} (hm : ∀ x ∈ ms, rs.length ≤ x) {x : Nat} (h : Rch (copyRows rs o) ms x) : rs.length ≤ x := by
  induction h with
  | base h => exact hm _ h
  | @step x y _ e ih =>
    obtain ⟨a, rfl⟩ : ∃ a, x = rs.length + a := ⟨x - rs.length, by omega⟩
    cases hx : o[a]? with
    | none =>
      exfalso
      have : rowAt (copyRows rs o) (rs.length + a) = [] := by
        unfold copyRows rowAt
        rw [List.getD, List.getElem?_append_right (Nat.le_add_right _ _), Nat.add_sub_cancel_left, List.getElem?_map, hx]
        rfl
      rw [this] at e
      cases e
    | some z =>
      rw [rowAt_copy hx] at e
      unfold succs at e
      obtain ⟨c, hc, he⟩ := List.mem_filterMap.mp e
      obtain ⟨c', hc', rfl⟩ := List.mem_map.mp hc
      cases c' with
      | node k =>
        have he : some (rs.length + o.idxOf k) = some y := he
        cases he
        omega
      | _ => cases he
theorem law_v {ff fd fr fi fcp fwk fsm frc : FV} (hf : SFields ff) (hd : SDraw fd) (hr : SRows fr) (hi : SInit fi) (hcp : SCopied fcp) (hwk : SWalk fwk) (hsm : SSame fsm) (hrc : SReached frc) (ns : List Int) (h63 : ns.length ≤ 63) : v_law ff fd fr fi fcp fwk fsm frc [.frz (ns.map .int)] (fun r _ _ => r = .bl true) (fun _ _ _ _ => False) 0 [] := by
  refine ⟨rfl, ?_⟩
  (conv => whnf)
  refine ⟨⟨ns, rfl⟩, ?_⟩
  (conv => whnf)
  refine ⟨⟨by decide, by decide⟩, ?_⟩
  (conv => whnf)
  refine for_ok (fun i η n s => ∃ o2 o3 o4 o5 o6 o7 o8 o9 o10 o11 o12 o13 o14, η = [some (.frz (ns.map .int)), some .pen, o2, o3, o4, o5, o6, o7, o8, o9, o10, o11, o12, o13, o14] ∧ n ≤ i * 2000 ∧ s = []) ⟨_, _, _, _, _, _, _, _, _, _, _, _, _, rfl, by omega, rfl⟩ (fun i u η n s K hu hI k1 _ _ _ => ?_) fun η n s hI => ?_
  rotate_left
  · obtain ⟨_, _, _, _, _, _, _, _, _, _, _, _, _, rfl, _⟩ := hI
    rfl
  obtain ⟨o2, o3, o4, o5, o6, o7, o8, o9, o10, o11, o12, o13, o14, rfl, hn, rfl⟩ := hI
  obtain ⟨hi4, rfl⟩ := rng_at hu
  have hi4 : i < 4 := hi4
  (conv => whnf)
  refine hf _ _ _ _ (by omega) fun fs n1 f1 f2 f3 hn1 => ?_
  (conv => whnf)
  refine hd _ _ _ _ _ (by decide) (by decide) (by omega) fun m n2 m0 m1 hn2 => ?_
  (conv => whnf)
  obtain ⟨m, rfl⟩ : ∃ j : Nat, m = (j : Int) := ⟨m.toNat, by omega⟩
  refine hr _ _ _ _ _ _ (by omega) (by omega) (by omega) fun rs n3 hl hok hn3 => ?_
  subst hl
  have hr12 : rs.length ≤ 12 := by omega
  (conv => whnf)
  refine heap_ok hi f1 f2 f3 (by omega) hok ?_
  have hwf := hok.wf
  (conv => whnf)
  refine ⟨cmp_data data_rows (data_lst rfl), ?_⟩
  (conv => whnf)
  have ez : (D.lst []) = .lst (([] : List Row).map rowD) := rfl
  rw [ez, eqD_rowsL]
  refine vcase_j (fun d n4 => ∃ k : Nat, d = .int k ∧ (0 < k → 0 < rs.length) ∧ k ≤ 4 ∧ n4 ≤ n3 + 1) (fun hc Q hq => ?_) (fun hc Q hq => hq _ _ ⟨0, rfl, (fun z => absurd z (Nat.lt_irrefl 0)), by omega, by omega⟩) fun d n4 ⟨k, hd', hk1, hk2, hn4⟩ => ?_
  · (conv => whnf)
    refine hd _ _ _ _ _ (by decide) (by decide) (by omega) fun z n4 z0 z1 hn4 => hq _ _ ⟨z.toNat, by congr 1; omega, fun _ => ?_, by omega, hn4⟩
    cases rs with
    | nil => simp at hc
    | cons => simp
  subst hd'
  (conv => whnf)
  refine ⟨⟨by omega, by omega⟩, ?_⟩
  (conv => whnf)
  refine ⟨small_line (by rw [rng_len]; omega), ?_⟩
  (conv => whnf)
  refine comp_each (fun v => ∃ k : Nat, v = .int k ∧ k < rs.length) 1 (fun u n' K hu hn' hK => ?_) fun vs n5 hl hP hn5 => ?_
  · rw [rng_len] at hn'
    obtain ⟨j, hj, rfl⟩ := rng_mem hu
    have hpos := hk1 (by omega)
    (conv => whnf)
    refine vcase_t ?_; (conv => whnf)
    rw [List.length_map]
    refine hd _ _ _ _ _ (by omega) (by omega) (by omega) fun z n2 z0 z1 hn2 => ?_
    obtain ⟨j, rfl⟩ : ∃ j : Nat, z = (j : Int) := ⟨z.toNat, by omega⟩
    exact hK _ _ ⟨j, rfl, by omega⟩ hn2
  rw [rng_len] at hl hn5
  obtain ⟨nodes, rfl, hnn⟩ := each_nodes hP
  rw [nodes_len] at hl
  (conv => whnf)
  refine hcp fs rs nodes _ _ _ _ f1 f2 f3 (by omega) (by omega) hok hwf hnn ?_
  (conv => whnf)
  refine ⟨rfl, ?_⟩
  (conv => whnf)
  refine hwk rs nodes _ _ _ _ hnn hwf (by omega) ?_
  (conv => whnf)
  refine hsm fs rs rs _ _ _ _ f3 ?_
  rw [decide_eq_true rfl]
  (conv => whnf)
  refine vcase_f ?_; (conv => whnf)
  obtain ⟨od, omem⟩ := order_ok hwf hnn
  have olt : ∀ x ∈ order rs nodes, x < rs.length := fun x hx => ((omem x).mp hx).lt hwf hnn
  have oclo : ∀ x ∈ order rs nodes, ∀ y ∈ succs (rowAt rs x), y ∈ order rs nodes := fun x hx y hy => order_closed hwf hnn hx hy
  have oin : ∀ x ∈ nodes, x ∈ order rs nodes := fun x hx => (omem x).mpr (.base hx)
  have ok2 := copy_ok hok hwf hnn
  generalize order rs nodes = o at od omem olt oclo oin ok2 ⊢
  have ol : o.length ≤ rs.length := nodup_le od olt
  have hcl : (copyRows rs o).length = rs.length + o.length := by unfold copyRows; rw [List.length_append, List.length_map]
  have hcut : cutU ((copyRows rs o).map rowD) none (some ((rs.map rowD).length : Int)) = rs.map rowD := by
    rw [cut_take (by rw [List.length_map, List.length_map]; omega)]
    unfold copyRows
    rw [List.map_append, List.take_left]
  rw [hcut]
  refine ⟨cmp_data data_rowsT data_rowsT, ?_⟩
  (conv => whnf)
  rw [eqD_rowsT, decide_eq_true rfl]
  refine vcase_f ?_; (conv => whnf)
  refine ⟨rfl, ?_⟩
  (conv => whnf)
  rw [eqD_int, decide_eq_true (by rw [List.length_map, nodes_len, hcl]; omega)]
  refine vcase_f ?_; (conv => whnf)
  refine ⟨zs o, nodes_zs, ?_⟩
  (conv => whnf)
  refine hrc fs rs nodes _ _ _ _ _ (.inl rfl) hnn hwf (by omega) fun l la lb => ?_
  have es : (sortI (zs o)).map D.int = nodesD l := by
    rw [sortI_asc (n := rs.length) (p := fun x => decide (x ∈ l)) od fun x => ⟨fun h => ⟨olt x h, decide_eq_true ((lb x).mpr ((omem x).mp h))⟩, fun h => (omem x).mpr ((lb x).mp (of_decide_eq_true h.2))⟩, ← nodes_zs, ← la]
  rw [es]
  (conv => whnf)
  refine ⟨cmp_data data_nodesT data_nodesT, ?_⟩
  (conv => whnf)
  rw [eqD_nodesT, decide_eq_true rfl]
  refine vcase_f ?_; (conv => whnf)
  refine ⟨small_line (by rw [nodes_len]; omega), ?_⟩
  (conv => whnf)
  refine map_pure (freshD rs.length o) (fun u K hu hK => ?_) ?_
  · obtain ⟨x, hx, rfl⟩ := List.mem_map.mp hu
    (conv => whnf)
    refine vcase_t ?_; (conv => whnf)
    refine ⟨⟨rfl, all_flatN _⟩, _, idxD_nodes (oin x hx), ?_⟩
    (conv => whnf)
    rw [List.length_map]
    exact hK
  have e4 : (nodesD nodes).map (freshD rs.length o) = nodesD (nodes.map fun x => rs.length + o.idxOf x) := by
    unfold nodesD
    rw [List.map_map, List.map_map]
    rfl
  rw [e4]
  (conv => whnf)
  refine ⟨cmp_data data_nodesT data_nodesT, ?_⟩
  (conv => whnf)
  rw [eqD_nodesT, decide_eq_true rfl]
  refine vcase_f ?_; (conv => whnf)
  rw [nodes_len]
  refine ⟨⟨by omega, by omega⟩, ?_⟩
  (conv => whnf)
  refine for_ok (fun i' η n' s' => ∃ o10 o11 o12 o13, η = [some (.frz (ns.map .int)), some .pen, some (.int (0 + (i : Nat))), some (.lst (fs.map .str)), some (.lst (rs.map rowD)), some (heapD fs rs), some (.lst (nodesD nodes)), some (heapD fs (copyRows rs o)), some (.tup (nodesD (nodes.map fun x => rs.length + o.idxOf x))), some (.lst (nodesD o)), o10, o11, o12, o13, o14] ∧ n' = n5 ∧ s' = []) ⟨_, _, _, _, rfl, rfl, rfl⟩ (fun a u η n' s' K hu hI k1 _ _ _ => ?_) fun η n' s' hI => ?_
  · obtain ⟨o10, o11, o12, o13, rfl, rfl, rfl⟩ := hI
    obtain ⟨ha, hu2⟩ := rng_at hu
    rw [Int.zero_add] at hu2
    subst hu2
    have ha : a < o.length := by omega
    obtain ⟨x, hx⟩ : ∃ x, o[a]? = some x := ⟨_, List.getElem?_eq_getElem ha⟩
    have hxo := List.mem_of_getElem? hx
    have hxn := olt x hxo
    have hrl : (rowAt rs x).length = fs.length := by
      have : rowAt rs x = rs[x] := by unfold rowAt; simp [List.getD, hxn]
      rw [this]
      exact (hok _ (List.getElem_mem hxn)).1
    (conv => whnf)
    rw [List.length_map]
    refine ⟨⟨by omega, by omega⟩, ?_⟩
    (conv => whnf)
    refine for_ok (fun i' η n'' s' => ∃ o11 o12 o13, η = [some (.frz (ns.map .int)), some .pen, some (.int (0 + (i : Nat))), some (.lst (fs.map .str)), some (.lst (rs.map rowD)), some (heapD fs rs), some (.lst (nodesD nodes)), some (heapD fs (copyRows rs o)), some (.tup (nodesD (nodes.map fun x => rs.length + o.idxOf x))), some (.lst (nodesD o)), some (.int (a : Nat)), o11, o12, o13, o14] ∧ n'' = n' ∧ s' = []) ⟨_, _, _, rfl, rfl, rfl⟩ (fun b u η n'' s' K hu hI k1 _ _ _ => ?_) fun η n'' s' hI => ?_
    · obtain ⟨o11, o12, o13, rfl, rfl, rfl⟩ := hI
      obtain ⟨hb, hu2⟩ := rng_at hu
      rw [Int.zero_add] at hu2
      subst hu2
      have hb : b < fs.length := by omega
      obtain ⟨c, hc⟩ : ∃ c, (rowAt rs x)[b]? = some c := ⟨_, List.getElem?_eq_getElem (by omega)⟩
      (conv => whnf)
      refine ⟨.int x, (by rw [atI_nat]; exact nodes_at hx), ?_⟩
      refine ⟨_, row_at hxn, ?_⟩
      (conv => whnf)
      refine ⟨c.d, by rw [atI_nat, List.getElem?_map, hc]; rfl, ?_⟩
      (conv => whnf)
      refine visk_cont ?_
      (conv => whnf)
      refine vcase_j (fun d n9 => d = (sh rs.length o c).d ∧ n9 = n'') (fun hb2 Q hq => ?_) (fun hb2 Q hq => ?_) fun d n9 ⟨e1, e2⟩ => ?_
      · cases c with
        | node y =>
          have hy := oclo x hxo y (mem_succs (List.mem_of_getElem? hc))
          (conv => whnf)
          refine ⟨_, atI_nat (j := 1), ?_⟩
          refine ⟨⟨rfl, all_flatN _⟩, _, idxD_nodes hy, ?_⟩
          (conv => whnf)
          rw [List.length_map]
          exact hq _ _ ⟨rfl, rfl⟩
        | _ => cases hb2
      · cases c with
        | node y => cases hb2
        | _ =>
          (conv => whnf)
          exact hq _ _ ⟨rfl, rfl⟩
      subst e1 e2
      (conv => whnf)
      rw [List.length_map]
      have hra := rowAt_copy (rs := rs) hx
      have en : ((rs.length : Nat) : Int) + ((a : Nat) : Int) = ((rs.length + a : Nat) : Int) := by omega
      rw [en]
      refine ⟨_, row_at (by rw [hcl]; omega), ?_⟩
      rw [hra]
      (conv => whnf)
      refine ⟨(sh rs.length o c).d, by rw [atI_nat, List.getElem?_map, List.getElem?_map, hc]; rfl, ?_⟩
      refine vne_cont ?_
      rw [decide_eq_true rfl]
      (conv => whnf)
      refine vcase_f ?_; (conv => whnf)
      exact k1 _ _ _ ⟨_, _, _, rfl, rfl, rfl⟩
    · obtain ⟨o11, o12, o13, rfl, rfl, rfl⟩ := hI
      exact k1 _ _ _ ⟨_, _, _, _, rfl, rfl, rfl⟩
  obtain ⟨o10, o11, o12, o13, rfl, rfl, rfl⟩ := hI
  (conv => whnf)
  refine hrc fs (copyRows rs o) (nodes.map fun x => rs.length + o.idxOf x) _ _ _ _ _ (.inr rfl) (fun x hx => ?_) ok2.wf (by omega) fun l2 la2 lb2 => ?_
  · obtain ⟨y, hy, rfl⟩ := List.mem_map.mp hx
    have := List.idxOf_lt_length_of_mem (oin y hy)
    omega
  have hl2 : l2.length ≤ 400 := by
    rw [la2]
    have := asc_le (n := (copyRows rs o).length) (p := fun x => decide (x ∈ l2))
    omega
  (conv => whnf)
  refine ⟨small_line (by rw [nodes_len]; omega), ?_⟩
  (conv => whnf)
  refine comp_pure (fun _ => none) (fun u K hu hK => ?_) ?_
  · obtain ⟨x, hx, rfl⟩ := List.mem_map.mp hu
    have hge := copy_far (rs := rs) (o := o) (ms := nodes.map fun x => rs.length + o.idxOf x) (fun x hx => by
      obtain ⟨y, hy, rfl⟩ := List.mem_map.mp hx
      omega) ((lb2 x).mp hx)
    (conv => whnf)
    rw [List.length_map, decide_eq_false (by omega)]
    refine vcase_f ?_; (conv => whnf)
    exact hK
  have en : (nodesD l2).filterMap (fun _ => (none : Option D)) = [] := by
    generalize nodesD l2 = z
    induction z with
    | nil => rfl
    | cons a z ih => rw [List.filterMap_cons]; exact ih
  rw [en]
  (conv => whnf)
  refine ⟨cmp_data (data_lst rfl) (data_lst rfl), ?_⟩
  (conv => whnf)
  refine vcase_mk (fun z => absurd z (by decide)) fun _ => ?_
  (conv => whnf)
  exact k1 _ _ _ ⟨_, _, _, _, _, _, _, _, _, _, _, _, _, rfl, by omega, rfl⟩
end MV
namespace LawM
open PySem L2 MP
def top (i : Nat) : Stmt := PySem.Challenge.pw_copiesowed_k10_whole_heaps_copied.main.body.getD i (.Pass ⟨0, 0, 0, 0⟩)
abbrev s_fits_name : Stmt := top 11
abbrev s_check_names : Stmt := top 12
abbrev s_check_fields : Stmt := top 13
abbrev s_is_node : Stmt := top 16
abbrev s__law_draw : Stmt := top 19
abbrev s__law_word : Stmt := top 20
abbrev s__law_names : Stmt := top 21
abbrev s__law_number : Stmt := top 22
abbrev s__law_content : Stmt := top 23
abbrev s__law_rows : Stmt := top 24
abbrev s__law_fields : Stmt := top 25
abbrev s__law_same : Stmt := top 26
abbrev s__law_walk : Stmt := top 27
abbrev s_law : Stmt := top 28
abbrev s_Heap___init__ : Stmt := inClass (top 17) 0
abbrev s_Heap_may_hold : Stmt := inClass (top 17) 1
abbrev s_Heap_check : Stmt := inClass (top 17) 2
abbrev s_Heap_content : Stmt := inClass (top 17) 3
abbrev s_Heap_in_order : Stmt := inClass (top 17) 6
abbrev s_Heap_reached : Stmt := inClass (top 17) 7
abbrev s_Heap_copied : Stmt := inClass (top 17) 8
abbrev d_fits_name : Df := ⟨["text", "letter"], 1, s_fits_name⟩
abbrev d_check_names : Df := ⟨["names", "most", "at", "name"], 2, s_check_names⟩
abbrev d_check_fields : Df := ⟨["fields"], 1, s_check_fields⟩
abbrev d_is_node : Df := ⟨["content"], 1, s_is_node⟩
abbrev d__law_draw : Df := ⟨["_law_pen", "_law_many", "_law_spot", "_law_at", "_law_cell", "_law_mixed"], 2, s__law_draw⟩
abbrev d__law_word : Df := ⟨["_law_pen", "_law_most", "_law_letters", "_law_k"], 2, s__law_word⟩
abbrev d__law_names : Df := ⟨["_law_pen", "_law_many", "_law_found", "_law_k", "_law_name", "_law_spare", "_law_word_here", "_law_n"], 2, s__law_names⟩
abbrev d__law_number : Df := ⟨["_law_pen", "_law_kind", "_law_found"], 1, s__law_number⟩
abbrev d__law_content : Df := ⟨["_law_pen", "_law_size", "_law_kind"], 2, s__law_content⟩
abbrev d__law_rows : Df := ⟨["_law_pen", "_law_fields_here", "_law_size", "_law_rows_here", "_law_node", "_law_field"], 3, s__law_rows⟩
abbrev d__law_fields : Df := ⟨["_law_pen"], 1, s__law_fields⟩
abbrev d__law_same : Df := ⟨["_law_heap", "_law_fields_here", "_law_rows_here"], 3, s__law_same⟩
abbrev d__law_walk : Df := ⟨["_law_rows_here", "_law_nodes", "_law_found", "_law_node", "_law_at", "_law_one"], 2, s__law_walk⟩
abbrev d_law : Df := ⟨["_law_script", "_law_pen", "_law_turn", "_law_fields_here", "_law_rows_here", "_law_heap", "_law_nodes", "_law_later", "_law_fresh", "_law_walked", "_law_at", "_law_k", "_law_one", "_law_due", "_law_node"], 1, s_law⟩
abbrev d_Heap___init__ : Df := ⟨["self", "fields", "rows", "node", "row", "content"], 3, s_Heap___init__⟩
abbrev d_Heap_may_hold : Df := ⟨["self", "content"], 2, s_Heap_may_hold⟩
abbrev d_Heap_check : Df := ⟨["self", "node"], 2, s_Heap_check⟩
abbrev d_Heap_content : Df := ⟨["self", "node", "field"], 3, s_Heap_content⟩
abbrev d_Heap_in_order : Df := ⟨["self", "nodes", "found", "node", "done", "row", "content"], 2, s_Heap_in_order⟩
abbrev d_Heap_reached : Df := ⟨["self", "nodes"], 2, s_Heap_reached⟩
abbrev d_Heap_copied : Df := ⟨["self", "nodes", "order", "fresh", "rows", "node", "at", "one"], 2, s_Heap_copied⟩
def fs : List (Str × Df) := [("fits_name", d_fits_name), ("check_names", d_check_names), ("check_fields", d_check_fields), ("is_node", d_is_node), ("_law_draw", d__law_draw), ("_law_word", d__law_word), ("_law_names", d__law_names), ("_law_number", d__law_number), ("_law_content", d__law_content), ("_law_rows", d__law_rows), ("_law_fields", d__law_fields), ("_law_same", d__law_same), ("_law_walk", d__law_walk), ("law", d_law)]
def ms : List ((Str × Str) × Df) := [(("Heap", "__init__"), d_Heap___init__), (("Heap", "may_hold"), d_Heap_may_hold), (("Heap", "check"), d_Heap_check), (("Heap", "content"), d_Heap_content), (("Heap", "in_order"), d_Heap_in_order), (("Heap", "reached"), d_Heap_reached), (("Heap", "copied"), d_Heap_copied)]
def T : Tab where
  fns := [("fits_name", 1, []), ("check_names", 2, []), ("check_fields", 1, []), ("is_node", 1, []), ("_law_draw", 2, []), ("_law_word", 2, []), ("_law_names", 2, []), ("_law_number", 1, []), ("_law_content", 2, []), ("_law_rows", 3, []), ("_law_fields", 1, []), ("_law_same", 3, []), ("_law_walk", 2, []), ("law", 1, [])]
  cls := [("Heap", 2, [])]
  mth := [("may_hold", ["Heap"], 1, []), ("check", ["Heap"], 1, []), ("content", ["Heap"], 2, []), ("in_order", ["Heap"], 1, []), ("reached", ["Heap"], 1, []), ("copied", ["Heap"], 1, [])]
  fld := [("fields", ["Heap"]), ("size", ["Heap"]), ("rows", ["Heap"])]
  exs := []
  con := [("LETTERS", (.str "abcdefghijklmnopqrstuvwxyz")), ("FIELDS", (.int 3)), ("NODES", (.int 400))]
  isc := ["tuple", "Heap"]
  kc := ["Heap"]
noncomputable def b_fits_name (G : Gm) : SM := sRet (xAnd (xChain leU leU (xC (.int 1)) (xB lenU [xV 0]) (xC (.int 12))) (xB allF [xLc (itV (xV 0)) (.one 1) (tYes) (xOp inU (xV 1) (xC (.str "abcdefghijklmnopqrstuvwxyz")))]))
theorem e_fits_name (G : Gm) : compSs T G d_fits_name.N fuel (defScope d_fits_name.st) (defBody d_fits_name.st) = b_fits_name G := by kernel_rfl
noncomputable def b_check_names (G : Gm) : SM := sSeq (sIf (tBl (xOp gtU (xB lenU [xV 0]) (xV 1))) (sBad) (sNil)) (sFor (itE (xV 0)) (.many [2, 3]) (sIf (tOr (tNot (tU (xFn (G.fn "fits_name") [] [xV 3]))) (tBl (xOp inU (xV 3) (xSl (xB listF [xV 0]) none (some (xV 2)))))) (sBad) (sNil)))
theorem e_check_names (G : Gm) : compSs T G d_check_names.N fuel (defScope d_check_names.st) (defBody d_check_names.st) = b_check_names G := by kernel_rfl
noncomputable def b_check_fields (G : Gm) : SM := sSeq (sIf (tNot (tU (xV 0))) (sBad) (sNil)) (sExp (xFn (G.fn "check_names") [] [xV 0, xC (.int 3)]))
theorem e_check_fields (G : Gm) : compSs T G d_check_fields.N fuel (defScope d_check_fields.st) (defBody d_check_fields.st) = b_check_fields G := by kernel_rfl
noncomputable def b_is_node (G : Gm) : SM := sRet (xIs ["Heap"] ["tuple"] (xV 0))
theorem e_is_node (G : Gm) : compSs T G d_is_node.N fuel (defScope d_is_node.st) (defBody d_is_node.st) = b_is_node G := by kernel_rfl
noncomputable def b__law_draw (G : Gm) : SM := sSeq (sTg (.one 2) (xOp getU (xV 0) (xC (.int 1)))) (sSeq (sPut (xV 0) (xC (.int 1)) (xOp addU (xV 2) (xC (.int 1)))) (sSeq (sTg (.one 3) (xOp modU (xB intF [xV 2]) (xB lenU [xOp getU (xV 0) (xC (.int 0))]))) (sSeq (sTg (.one 4) (xB intF [xOp getU (xOp getU (xV 0) (xC (.int 0))) (xV 3)])) (sSeq (sIf (tBl (xOp geU (xV 4) (xOp powU (xC (.int 10)) (xC (.int 18))))) (sSeq (sPut (xOp getU (xV 0) (xC (.int 0))) (xV 3) (xOp fdivU (xV 4) (xV 1))) (sRet (xOp modU (xB intF [xV 4]) (xV 1)))) (sNil)) (sSeq (sTg (.one 5) (xOp powU (xB intF [xOp addU (xOp addU (xOp mulU (xOp modU (xB intF [xV 4]) (xC (.int 1000000007))) (xC (.int 48271))) (xOp mulU (xV 2) (xC (.int 7919)))) (xC (.int 104729))]) (xC (.int 5)))) (sRet (xOp modU (xOp fdivU (xB intF [xOp modU (xB intF [xV 5]) (xC (.int 2147483647))]) (xC (.int 8))) (xV 1))))))))
theorem e__law_draw (G : Gm) : compSs T G d__law_draw.N fuel (defScope d__law_draw.st) (defBody d__law_draw.st) = b__law_draw G := by kernel_rfl
noncomputable def b__law_word (G : Gm) : SM := sSeq (sTg (.one 2) (xC (.str "abcdefghijklmnopqrstuvwxyz"))) (sRet (xMth G.meth "join" [] [] (xC (.str "")) [xLc (itR1 (xOp addU (xC (.int 1)) (xFn (G.fn "_law_draw") [] [xV 0, xV 1]))) (.one 3) (tYes) (xOp getU (xV 2) (xFn (G.fn "_law_draw") [] [xV 0, xC (.int 26)]))]))
theorem e__law_word (G : Gm) : compSs T G d__law_word.N fuel (defScope d__law_word.st) (defBody d__law_word.st) = b__law_word G := by kernel_rfl
noncomputable def b__law_names (G : Gm) : SM := sSeq (sTg (.one 2) (xLst [])) (sSeq (sFor (itR1 (xV 1)) (.one 3) (sSeq (sTg (.one 4) (xFn (G.fn "_law_word") [] [xV 0, xIf (tBl (xOp eqO (xFn (G.fn "_law_draw") [] [xV 0, xC (.int 4)]) (xC (.int 0)))) (xC (.int 12)) (xC (.int 2))])) (sSeq (sTg (.one 5) (xLc (itV (xLc (itR2 (xC (.int 1)) (xC (.int 13))) (.one 7) (tYes) (xOp mulU (xC (.str "a")) (xV 7)))) (.one 6) (tBl (xOp notInU (xV 6) (xV 2))) (xV 6))) (sExp (xMth G.meth "append" [] [] (xV 2) [xIf (tBl (xOp inU (xV 4) (xV 2))) (xOp getU (xV 5) (xC (.int 0))) (xV 4)]))))) (sRet (xV 2)))
theorem e__law_names (G : Gm) : compSs T G d__law_names.N fuel (defScope d__law_names.st) (defBody d__law_names.st) = b__law_names G := by kernel_rfl
noncomputable def b__law_number (G : Gm) : SM := sSeq (sTg (.one 1) (xFn (G.fn "_law_draw") [] [xV 0, xC (.int 8)])) (sSeq (sIf (tBl (xOp ltU (xV 1) (xC (.int 4)))) (sRet (xOp subU (xFn (G.fn "_law_draw") [] [xV 0, xC (.int 9)]) (xC (.int 4)))) (sNil)) (sSeq (sTg (.one 2) (xFn (G.fn "_law_draw") [] [xV 0, xC (.int 1000003)])) (sSeq (sIf (tBl (xOp gtU (xV 1) (xC (.int 5)))) (sTg (.one 2) (xOp addU (xOp mulU (xV 2) (xC (.int 1000003))) (xFn (G.fn "_law_draw") [] [xV 0, xC (.int 1000003)]))) (sNil)) (sSeq (sIf (tBl (xOp gtU (xV 1) (xC (.int 6)))) (sTg (.one 2) (xOp addU (xOp mulU (xV 2) (xOp powU (xC (.int 10)) (xC (.int 18)))) (xFn (G.fn "_law_draw") [] [xV 0, xC (.int 1000003)]))) (sNil)) (sRet (xIf (tBl (xOp eqO (xFn (G.fn "_law_draw") [] [xV 0, xC (.int 2)]) (xC (.int 0)))) (xUn negU (xV 2)) (xV 2)))))))
theorem e__law_number (G : Gm) : compSs T G d__law_number.N fuel (defScope d__law_number.st) (defBody d__law_number.st) = b__law_number G := by kernel_rfl
noncomputable def b__law_content (G : Gm) : SM := sSeq (sTg (.one 2) (xFn (G.fn "_law_draw") [] [xV 0, xC (.int 5)])) (sSeq (sIf (tAnd (tBl (xOp ltU (xV 2) (xC (.int 3)))) (tBl (xOp gtU (xV 1) (xC (.int 0))))) (sRet (xTup [xC (.str "node"), xFn (G.fn "_law_draw") [] [xV 0, xV 1]])) (sNil)) (sRet (xIf (tBl (xOp eqO (xV 2) (xC (.int 3)))) (xC .non) (xFn (G.fn "_law_number") [] [xV 0]))))
theorem e__law_content (G : Gm) : compSs T G d__law_content.N fuel (defScope d__law_content.st) (defBody d__law_content.st) = b__law_content G := by kernel_rfl
noncomputable def b__law_rows (G : Gm) : SM := sSeq (sTg (.one 3) (xLst [])) (sSeq (sFor (itR1 (xV 2)) (.one 4) (sExp (xMth G.meth "append" [] [] (xV 3) [xB tupF [xLc (itV (xV 1)) (.one 5) (tYes) (xFn (G.fn "_law_content") [] [xV 0, xV 2])]]))) (sRet (xV 3)))
theorem e__law_rows (G : Gm) : compSs T G d__law_rows.N fuel (defScope d__law_rows.st) (defBody d__law_rows.st) = b__law_rows G := by kernel_rfl
noncomputable def b__law_fields (G : Gm) : SM := sRet (xFn (G.fn "_law_names") [] [xV 0, xOp addU (xC (.int 1)) (xFn (G.fn "_law_draw") [] [xV 0, xC (.int 3)])])
theorem e__law_fields (G : Gm) : compSs T G d__law_fields.N fuel (defScope d__law_fields.st) (defBody d__law_fields.st) = b__law_fields G := by kernel_rfl
noncomputable def b__law_same (G : Gm) : SM := sSeq (sIf (tOr (tNot (tU (xIs ["Heap"] ["Heap"] (xV 0)))) (tOr (tBl (xOp neO (xFld ["Heap"] "fields" (xV 0)) (xB tupF [xV 1]))) (tBl (xOp neO (xFld ["Heap"] "size" (xV 0)) (xB lenU [xV 2]))))) (sRet (xC (.bl false))) (sNil)) (sRet (xOp eqO (xFld ["Heap"] "rows" (xV 0)) (xB tupF [xV 2])))
theorem e__law_same (G : Gm) : compSs T G d__law_same.N fuel (defScope d__law_same.st) (defBody d__law_same.st) = b__law_same G := by kernel_rfl
noncomputable def b__law_walk (G : Gm) : SM := sSeq (sTg (.one 2) (xLst [])) (sSeq (sFor (itV (xV 1)) (.one 3) (sIf (tBl (xOp notInU (xV 3) (xV 2))) (sExp (xMth G.meth "append" [] [] (xV 2) [xV 3])) (sNil))) (sSeq (sFor (itR1 (xB lenU [xV 0])) (.one 4) (sIf (tBl (xOp ltU (xV 4) (xB lenU [xV 2]))) (sFor (itV (xOp getU (xV 0) (xOp getU (xV 2) (xV 4)))) (.one 5) (sIf (tAnd (tU (xIs ["Heap"] ["tuple"] (xV 5))) (tBl (xOp notInU (xOp getU (xV 5) (xC (.int 1))) (xV 2)))) (sTg (.one 2) (xOp addU (xV 2) (xLst [xOp getU (xV 5) (xC (.int 1))]))) (sNil))) (sNil))) (sRet (xV 2))))
theorem e__law_walk (G : Gm) : compSs T G d__law_walk.N fuel (defScope d__law_walk.st) (defBody d__law_walk.st) = b__law_walk G := by kernel_rfl
noncomputable def b_law (G : Gm) : SM := sSeq (sTg (.one 1) (xLst [xOr (xB listF [xV 0]) (xLst [xC (.int 0)]), xC (.int 0)])) (sSeq (sFor (itR1 (xC (.int 4))) (.one 2) (sSeq (sTg (.one 3) (xFn (G.fn "_law_fields") [] [xV 1])) (sSeq (sTg (.one 4) (xFn (G.fn "_law_rows") [] [xV 1, xV 3, xFn (G.fn "_law_draw") [] [xV 1, xC (.int 13)]])) (sSeq (sTg (.one 5) (xFn (mkU "Heap" (G.meth "Heap" "__init__")) [] [xV 3, xV 4])) (sSeq (sTg (.one 6) (xLc (itR1 (xIf (tBl (xOp neO (xV 4) (xLst []))) (xFn (G.fn "_law_draw") [] [xV 1, xC (.int 5)]) (xC (.int 0)))) (.one 11) (tYes) (xFn (G.fn "_law_draw") [] [xV 1, xB lenU [xV 4]]))) (sSeq (sTg (.many [7, 8]) (xMth G.meth "copied" ["Heap"] [] (xV 5) [xB listF [xV 6]])) (sSeq (sTg (.one 9) (xFn (G.fn "_law_walk") [] [xV 4, xV 6])) (sSeq (sIf (tOr (tNot (tU (xFn (G.fn "_law_same") [] [xV 5, xV 3, xV 4]))) (tBl (xOp neO (xSl (xFld ["Heap"] "rows" (xV 7)) none (some (xB lenU [xV 4]))) (xB tupF [xV 4])))) (sRet (xC (.bl false))) (sNil)) (sSeq (sIf (tOr (tBl (xOp neO (xFld ["Heap"] "size" (xV 7)) (xOp addU (xB lenU [xV 4]) (xB lenU [xV 9])))) (tBl (xOp neO (xB tupF [xB sortedF [xV 9]]) (xMth G.meth "reached" ["Heap"] [] (xV 5) [xV 6])))) (sRet (xC (.bl false))) (sNil)) (sSeq (sIf (tBl (xOp neO (xV 8) (xB tupF [xLc (itV (xV 6)) (.one 14) (tYes) (xOp addU (xB lenU [xV 4]) (xMth G.meth "index" [] [] (xV 9) [xV 14]))]))) (sRet (xC (.bl false))) (sNil)) (sSeq (sFor (itR1 (xB lenU [xV 9])) (.one 10) (sFor (itR1 (xB lenU [xV 3])) (.one 11) (sSeq (sTg (.one 12) (xOp getU (xOp getU (xV 4) (xOp getU (xV 9) (xV 10))) (xV 11))) (sSeq (sTg (.one 13) (xIf (tU (xIs ["Heap"] ["tuple"] (xV 12))) (xTup [xC (.str "node"), xOp addU (xB lenU [xV 4]) (xMth G.meth "index" [] [] (xV 9) [xOp getU (xV 12) (xC (.int 1))])]) (xV 12))) (sIf (tBl (xOp neO (xOp getU (xOp getU (xFld ["Heap"] "rows" (xV 7)) (xOp addU (xB lenU [xV 4]) (xV 10))) (xV 11)) (xV 13))) (sRet (xC (.bl false))) (sNil)))))) (sIf (tBl (xOp neO (xLc (itV (xMth G.meth "reached" ["Heap"] [] (xV 7) [xV 8])) (.one 14) (tBl (xOp ltU (xV 14) (xB lenU [xV 4]))) (xV 14)) (xLst []))) (sRet (xC (.bl false))) (sNil))))))))))))) (sRet (xC (.bl true))))
theorem e_law (G : Gm) : compSs T G d_law.N fuel (defScope d_law.st) (defBody d_law.st) = b_law G := by kernel_rfl
noncomputable def b_Heap___init__ (G : Gm) : SM := sSeq (sExp (xFn (G.fn "check_fields") [] [xV 1])) (sSeq (sIf (tBl (xOp gtU (xB lenU [xV 2]) (xC (.int 400)))) (sBad) (sNil)) (sSeq (sFld ["Heap"] "fields" (xV 0) (xB tupF [xV 1])) (sSeq (sFld ["Heap"] "size" (xV 0) (xB lenU [xV 2])) (sSeq (sFor (itE (xV 2)) (.many [3, 4]) (sIf (tOr (tBl (xOp neO (xB lenU [xV 4]) (xB lenU [xFld ["Heap"] "fields" (xV 0)]))) (tNot (tU (xB allF [xLc (itV (xV 4)) (.one 5) (tYes) (xMth G.meth "may_hold" ["Heap"] [] (xV 0) [xV 5])])))) (sBad) (sNil))) (sFld ["Heap"] "rows" (xV 0) (xB tupF [xLc (itV (xV 2)) (.one 4) (tYes) (xB tupF [xV 4])]))))))
theorem e_Heap___init__ (G : Gm) : compSs T G d_Heap___init__.N fuel (defScope d_Heap___init__.st) (defBody d_Heap___init__.st) = b_Heap___init__ G := by kernel_rfl
noncomputable def b_Heap_may_hold (G : Gm) : SM := sRet (xOr (xNot (xFn (G.fn "is_node") [] [xV 1])) (xChain leU ltU (xC (.int 0)) (xOp getU (xV 1) (xC (.int 1))) (xFld ["Heap"] "size" (xV 0))))
theorem e_Heap_may_hold (G : Gm) : compSs T G d_Heap_may_hold.N fuel (defScope d_Heap_may_hold.st) (defBody d_Heap_may_hold.st) = b_Heap_may_hold G := by kernel_rfl
noncomputable def b_Heap_check (G : Gm) : SM := sIf (tNot (tBl (xChain leU ltU (xC (.int 0)) (xV 1) (xFld ["Heap"] "size" (xV 0))))) (sBad) (sNil)
theorem e_Heap_check (G : Gm) : compSs T G d_Heap_check.N fuel (defScope d_Heap_check.st) (defBody d_Heap_check.st) = b_Heap_check G := by kernel_rfl
noncomputable def b_Heap_content (G : Gm) : SM := sSeq (sExp (xMth G.meth "check" ["Heap"] [] (xV 0) [xV 1])) (sSeq (sIf (tBl (xOp notInU (xV 2) (xFld ["Heap"] "fields" (xV 0)))) (sBad) (sNil)) (sRet (xOp getU (xOp getU (xFld ["Heap"] "rows" (xV 0)) (xV 1)) (xMth G.meth "index" [] [] (xFld ["Heap"] "fields" (xV 0)) [xV 2]))))
theorem e_Heap_content (G : Gm) : compSs T G d_Heap_content.N fuel (defScope d_Heap_content.st) (defBody d_Heap_content.st) = b_Heap_content G := by kernel_rfl
noncomputable def b_Heap_in_order (G : Gm) : SM := sSeq (sTg (.one 2) (xLst [])) (sSeq (sFor (itV (xV 1)) (.one 3) (sSeq (sExp (xMth G.meth "check" ["Heap"] [] (xV 0) [xV 3])) (sIf (tBl (xOp notInU (xV 3) (xV 2))) (sExp (xMth G.meth "append" [] [] (xV 2) [xV 3])) (sNil)))) (sSeq (sTg (.one 4) (xC (.int 0))) (sSeq (sWhile (tBl (xOp ltU (xV 4) (xB lenU [xV 2]))) (sSeq (sTg (.one 5) (xOp getU (xFld ["Heap"] "rows" (xV 0)) (xOp getU (xV 2) (xV 4)))) (sSeq (sAug 4 (opI fun a b => some (.int (a + b))) (xC (.int 1))) (sFor (itV (xV 5)) (.one 6) (sIf (tAnd (tU (xFn (G.fn "is_node") [] [xV 6])) (tBl (xOp notInU (xOp getU (xV 6) (xC (.int 1))) (xV 2)))) (sExp (xMth G.meth "append" [] [] (xV 2) [xOp getU (xV 6) (xC (.int 1))])) (sNil)))))) (sRet (xV 2)))))
theorem e_Heap_in_order (G : Gm) : compSs T G d_Heap_in_order.N fuel (defScope d_Heap_in_order.st) (defBody d_Heap_in_order.st) = b_Heap_in_order G := by kernel_rfl
noncomputable def b_Heap_reached (G : Gm) : SM := sRet (xB tupF [xB sortedF [xMth G.meth "in_order" ["Heap"] [] (xV 0) [xV 1]]])
theorem e_Heap_reached (G : Gm) : compSs T G d_Heap_reached.N fuel (defScope d_Heap_reached.st) (defBody d_Heap_reached.st) = b_Heap_reached G := by kernel_rfl
noncomputable def b_Heap_copied (G : Gm) : SM := sSeq (sTg (.one 2) (xMth G.meth "in_order" ["Heap"] [] (xV 0) [xV 1])) (sSeq (sTg (.one 3) (xDc (itE (xV 2)) (.many [6, 5]) (tYes) (xV 5) (xOp addU (xFld ["Heap"] "size" (xV 0)) (xV 6)))) (sSeq (sTg (.one 4) (xB listF [xFld ["Heap"] "rows" (xV 0)])) (sSeq (sFor (itV (xV 2)) (.one 5) (sExp (xMth G.meth "append" [] [] (xV 4) [xB tupF [xLc (itV (xOp getU (xFld ["Heap"] "rows" (xV 0)) (xV 5))) (.one 7) (tYes) (xIf (tU (xFn (G.fn "is_node") [] [xV 7])) (xTup [xC (.str "node"), xOp getU (xV 3) (xOp getU (xV 7) (xC (.int 1)))]) (xV 7))]]))) (sRet (xTup [xFn (mkU "Heap" (G.meth "Heap" "__init__")) [] [xFld ["Heap"] "fields" (xV 0), xV 4], xB tupF [xLc (itV (xV 1)) (.one 5) (tYes) (xOp getU (xV 3) (xV 5))]])))))
theorem e_Heap_copied (G : Gm) : compSs T G d_Heap_copied.N fuel (defScope d_Heap_copied.st) (defBody d_Heap_copied.st) = b_Heap_copied G := by kernel_rfl
end LawM
namespace LawM
open PySem L2 MP MV
def CT : MV.CTab := fun c => match c with
  | 0 => ("Heap", ["fields", "size", "rows"])
  | _ => ("", [])

noncomputable def w : Nat → Nat → FV
  | 0, _ => fun _ => vbad
  | d + 1, 0 => v_fits_name
  | d + 1, 1 => v_check_names (w d 0)
  | d + 1, 2 => v_check_fields (w d 1)
  | d + 1, 3 => v_is_node
  | d + 1, 4 => vdraw
  | d + 1, 5 => v__law_word (w d 4)
  | d + 1, 6 => v__law_names (w d 4) (w d 5)
  | d + 1, 7 => v__law_number (w d 4)
  | d + 1, 8 => v__law_content (w d 4) (w d 7)
  | d + 1, 9 => v__law_rows (w d 8)
  | d + 1, 10 => v__law_fields (w d 4) (w d 6)
  | d + 1, 11 => v__law_same
  | d + 1, 12 => v__law_walk
  | d + 1, 13 => v_law (w d 10) (w d 4) (w d 9) (w d 14) (w d 20) (w d 12) (w d 11) (w d 19)
  | d + 1, 14 => v_Heap___init__ (w d 2) (w d 15)
  | d + 1, 15 => v_Heap_may_hold (w d 3)
  | d + 1, 16 => v_Heap_check
  | d + 1, 17 => v_Heap_content (w d 16)
  | d + 1, 18 => v_Heap_in_order (w d 16) (w d 3)
  | d + 1, 19 => v_Heap_reached (w d 18)
  | d + 1, 20 => v_Heap_copied (w d 18) (w d 3) (w d 14)
  | _ + 1, _ => fun _ => vbad
theorem sim : ∀ d, FnS CT ((gm T fs ms d).fn "fits_name") (w d 0) ∧ FnS CT ((gm T fs ms d).fn "check_names") (w d 1) ∧ FnS CT ((gm T fs ms d).fn "check_fields") (w d 2) ∧ FnS CT ((gm T fs ms d).fn "is_node") (w d 3) ∧ FnS CT ((gm T fs ms d).fn "_law_draw") (w d 4) ∧ FnS CT ((gm T fs ms d).fn "_law_word") (w d 5) ∧ FnS CT ((gm T fs ms d).fn "_law_names") (w d 6) ∧ FnS CT ((gm T fs ms d).fn "_law_number") (w d 7) ∧ FnS CT ((gm T fs ms d).fn "_law_content") (w d 8) ∧ FnS CT ((gm T fs ms d).fn "_law_rows") (w d 9) ∧ FnS CT ((gm T fs ms d).fn "_law_fields") (w d 10) ∧ FnS CT ((gm T fs ms d).fn "_law_same") (w d 11) ∧ FnS CT ((gm T fs ms d).fn "_law_walk") (w d 12) ∧ FnS CT ((gm T fs ms d).fn "law") (w d 13) ∧ FnS CT ((gm T fs ms d).meth "Heap" "__init__") (w d 14) ∧ FnS CT ((gm T fs ms d).meth "Heap" "may_hold") (w d 15) ∧ FnS CT ((gm T fs ms d).meth "Heap" "check") (w d 16) ∧ FnS CT ((gm T fs ms d).meth "Heap" "content") (w d 17) ∧ FnS CT ((gm T fs ms d).meth "Heap" "in_order") (w d 18) ∧ FnS CT ((gm T fs ms d).meth "Heap" "reached") (w d 19) ∧ FnS CT ((gm T fs ms d).meth "Heap" "copied") (w d 20)
  | 0 => ⟨fn_zero, fn_zero, fn_zero, fn_zero, fn_zero, fn_zero, fn_zero, fn_zero, fn_zero, fn_zero, fn_zero, fn_zero, fn_zero, fn_zero, mt_zero, mt_zero, mt_zero, mt_zero, mt_zero, mt_zero, mt_zero⟩
  | d + 1 => by
    obtain ⟨hf_fits_name, hf_check_names, hf_check_fields, hf_is_node, hf__law_draw, hf__law_word, hf__law_names, hf__law_number, hf__law_content, hf__law_rows, hf__law_fields, hf__law_same, hf__law_walk, hf_law, hf_Heap___init__, hf_Heap_may_hold, hf_Heap_check, hf_Heap_content, hf_Heap_in_order, hf_Heap_reached, hf_Heap_copied⟩ := sim d
    refine ⟨?_, ?_, ?_, ?_, ?_, ?_, ?_, ?_, ?_, ?_, ?_, ?_, ?_, ?_, ?_, ?_, ?_, ?_, ?_, ?_, ?_⟩
    · exact fn_eq (D := d_fits_name) (by kernel_rfl) (e_fits_name _) (f_fn (z_ret (e_And (e_Chain s_le s_le (e_C (fun _ _ => rel_int)) (e_B s_len (l_cons (e_V) l_nil)) (e_C (fun _ _ => rel_int))) (e_B s_all (l_cons (e_Lc (i_V (e_V)) (t_Yes) (e_Op s_in (e_V) (e_C (fun _ _ => rel_str)))) l_nil)))))
    · exact fn_eq (D := d_check_names) (by kernel_rfl) (e_check_names _) (f_fn (z_seq (z_if (t_Bl (e_Op s_gt (e_B s_len (l_cons (e_V) l_nil)) (e_V))) (z_bad) (z_nil)) (z_for (i_E (e_V)) (z_if (t_Or (t_Not (t_U (e_Fn hf_fits_name (l_cons (e_V) l_nil)))) (t_Bl (e_Op s_in (e_V) (e_Sl (e_B s_list (l_cons (e_V) l_nil)) p_none (p_some (e_V)))))) (z_bad) (z_nil)))))
    · exact fn_eq (D := d_check_fields) (by kernel_rfl) (e_check_fields _) (f_fn (z_seq (z_if (t_Not (t_U (e_V))) (z_bad) (z_nil)) (z_exp (e_Fn hf_check_names (l_cons (e_V) (l_cons (e_C (fun _ _ => rel_int)) l_nil))))))
    · exact fn_eq (D := d_is_node) (by kernel_rfl) (e_is_node _) (f_fn (z_ret (e_Is (by unfold KdOk; decide +kernel) (e_V))))
    · exact fn_eq (D := d__law_draw) (by kernel_rfl) (e__law_draw _) (s_draw)
    · exact fn_eq (D := d__law_word) (by kernel_rfl) (e__law_word _) (f_fn (z_seq (z_tg (e_C (fun _ _ => rel_str))) (z_ret (e_Join (e_C (fun _ _ => rel_str)) (l_cons (e_Lc (i_R1 (e_Op s_add (e_C (fun _ _ => rel_int)) (e_Fn hf__law_draw (l_cons (e_V) (l_cons (e_V) l_nil))))) (t_Yes) (e_Op s_get (e_V) (e_Fn hf__law_draw (l_cons (e_V) (l_cons (e_C (fun _ _ => rel_int)) l_nil))))) l_nil)))))
    · exact fn_eq (D := d__law_names) (by kernel_rfl) (e__law_names _) (f_pure (f_fn (z_seq (z_tg (e_LstM l_nil)) (z_seq (z_for (i_R1 (e_V)) (z_seq (z_tg (e_Fn hf__law_word (l_cons (e_V) (l_cons (e_If (t_Bl (e_Op s_eq (e_Fn hf__law_draw (l_cons (e_V) (l_cons (e_C (fun _ _ => rel_int)) l_nil))) (e_C (fun _ _ => rel_int)))) (e_C (fun _ _ => rel_int)) (e_C (fun _ _ => rel_int))) l_nil)))) (z_seq (z_tg (e_Lc (i_V (e_Lc (i_R2 (e_C (fun _ _ => rel_int)) (e_C (fun _ _ => rel_int))) (t_Yes) (e_Op s_mul (e_C (fun _ _ => rel_str)) (e_V)))) (t_Bl (e_Op s_nin (e_V) (e_V))) (e_V))) (z_exp (e_App (e_V) (l_cons (e_If (t_Bl (e_Op s_in (e_V) (e_V))) (e_Op s_get (e_V) (e_C (fun _ _ => rel_int))) (e_V)) l_nil)))))) (z_ret (e_Frz (e_V)))))))
    · exact fn_eq (D := d__law_number) (by kernel_rfl) (e__law_number _) (f_fn (z_seq (z_tg (e_Fn hf__law_draw (l_cons (e_V) (l_cons (e_C (fun _ _ => rel_int)) l_nil)))) (z_seq (z_if (t_Bl (e_Op s_lt (e_V) (e_C (fun _ _ => rel_int)))) (z_ret (e_Op s_sub (e_Fn hf__law_draw (l_cons (e_V) (l_cons (e_C (fun _ _ => rel_int)) l_nil))) (e_C (fun _ _ => rel_int)))) (z_nil)) (z_seq (z_tg (e_Fn hf__law_draw (l_cons (e_V) (l_cons (e_C (fun _ _ => rel_int)) l_nil)))) (z_seq (z_if (t_Bl (e_Op s_gt (e_V) (e_C (fun _ _ => rel_int)))) (z_tg (e_Op s_add (e_Op s_mul (e_V) (e_C (fun _ _ => rel_int))) (e_Fn hf__law_draw (l_cons (e_V) (l_cons (e_C (fun _ _ => rel_int)) l_nil))))) (z_nil)) (z_seq (z_if (t_Bl (e_Op s_gt (e_V) (e_C (fun _ _ => rel_int)))) (z_tg (e_Op s_add (e_Op s_mul (e_V) (e_Op s_pow (e_C (fun _ _ => rel_int)) (e_C (fun _ _ => rel_int)))) (e_Fn hf__law_draw (l_cons (e_V) (l_cons (e_C (fun _ _ => rel_int)) l_nil))))) (z_nil)) (z_ret (e_If (t_Bl (e_Op s_eq (e_Fn hf__law_draw (l_cons (e_V) (l_cons (e_C (fun _ _ => rel_int)) l_nil))) (e_C (fun _ _ => rel_int)))) (e_neg (e_V)) (e_V)))))))))
    · exact fn_eq (D := d__law_content) (by kernel_rfl) (e__law_content _) (f_fn (z_seq (z_tg (e_Fn hf__law_draw (l_cons (e_V) (l_cons (e_C (fun _ _ => rel_int)) l_nil)))) (z_seq (z_if (t_And (t_Bl (e_Op s_lt (e_V) (e_C (fun _ _ => rel_int)))) (t_Bl (e_Op s_gt (e_V) (e_C (fun _ _ => rel_int))))) (z_ret (e_Tup (l_cons (e_C (fun _ _ => rel_str)) (l_cons (e_Fn hf__law_draw (l_cons (e_V) (l_cons (e_V) l_nil))) l_nil)))) (z_nil)) (z_ret (e_If (t_Bl (e_Op s_eq (e_V) (e_C (fun _ _ => rel_int)))) (e_C (fun _ _ => rel_non)) (e_Fn hf__law_number (l_cons (e_V) l_nil)))))))
    · exact fn_eq (D := d__law_rows) (by kernel_rfl) (e__law_rows _) (f_pure (f_fn (z_seq (z_tg (e_LstM l_nil)) (z_seq (z_for (i_R1 (e_V)) (z_exp (e_App (e_V) (l_cons (e_B s_tup (l_cons (e_Lc (i_V (e_V)) (t_Yes) (e_Fn hf__law_content (l_cons (e_V) (l_cons (e_V) l_nil)))) l_nil)) l_nil)))) (z_ret (e_Frz (e_V)))))))
    · exact fn_eq (D := d__law_fields) (by kernel_rfl) (e__law_fields _) (f_fn (z_ret (e_Fn hf__law_names (l_cons (e_V) (l_cons (e_Op s_add (e_C (fun _ _ => rel_int)) (e_Fn hf__law_draw (l_cons (e_V) (l_cons (e_C (fun _ _ => rel_int)) l_nil)))) l_nil)))))
    · exact fn_eq (D := d__law_same) (by kernel_rfl) (e__law_same _) (f_fn (z_seq (z_if (t_Or (t_Not (t_U (e_Is (by unfold KdOk; decide +kernel) (e_V)))) (t_Or (t_Bl (e_Op s_ne (e_Fld (by unfold FldOk; decide +kernel) (e_V)) (e_B s_tup (l_cons (e_V) l_nil)))) (t_Bl (e_Op s_ne (e_Fld (by unfold FldOk; decide +kernel) (e_V)) (e_B s_len (l_cons (e_V) l_nil)))))) (z_ret (e_C (fun _ _ => rel_bl))) (z_nil)) (z_ret (e_Op s_eq (e_Fld (by unfold FldOk; decide +kernel) (e_V)) (e_B s_tup (l_cons (e_V) l_nil))))))
    · exact fn_eq (D := d__law_walk) (by kernel_rfl) (e__law_walk _) (f_pure (f_fn (z_seq (z_tg (e_LstM l_nil)) (z_seq (z_for (i_V (e_V)) (z_if (t_Bl (e_Op s_nin (e_V) (e_V))) (z_exp (e_App (e_V) (l_cons (e_V) l_nil))) (z_nil))) (z_seq (z_for (i_R1 (e_B s_len (l_cons (e_V) l_nil))) (z_if (t_Bl (e_Op s_lt (e_V) (e_B s_len (l_cons (e_V) l_nil)))) (z_for (i_V (e_Op s_get (e_V) (e_Op s_get (e_V) (e_V)))) (z_if (t_And (t_U (e_Is (by unfold KdOk; decide +kernel) (e_V))) (t_Bl (e_Op s_nin (e_Op s_get (e_V) (e_C (fun _ _ => rel_int))) (e_V)))) (z_tg (e_Op s_add (e_V) (e_Lst (l_cons (e_Op s_get (e_V) (e_C (fun _ _ => rel_int))) l_nil)))) (z_nil))) (z_nil))) (z_ret (e_Frz (e_V))))))))
    · exact fn_eq (D := d_law) (by kernel_rfl) (e_law _) (f_fn (z_seq (z_tg e_pen) (z_seq (z_for (i_R1 (e_C (fun _ _ => rel_int))) (z_seq (z_tg (e_Fn hf__law_fields (l_cons (e_V) l_nil))) (z_seq (z_tg (e_Fn hf__law_rows (l_cons (e_V) (l_cons (e_V) (l_cons (e_Fn hf__law_draw (l_cons (e_V) (l_cons (e_C (fun _ _ => rel_int)) l_nil))) l_nil))))) (z_seq (z_tg (e_Fn (f_mk (c := 0) hf_Heap___init__) (l_cons (e_V) (l_cons (e_V) l_nil)))) (z_seq (z_tg (e_Lc (i_R1 (e_If (t_Bl (e_Op s_ne (e_V) (e_Lst l_nil))) (e_Fn hf__law_draw (l_cons (e_V) (l_cons (e_C (fun _ _ => rel_int)) l_nil))) (e_C (fun _ _ => rel_int)))) (t_Yes) (e_Fn hf__law_draw (l_cons (e_V) (l_cons (e_B s_len (l_cons (e_V) l_nil)) l_nil))))) (z_seq (z_tg (e_Meth (mt_cons hf_Heap_copied (by decide +kernel) (by decide +kernel) mt_nil) (e_V) (l_cons (e_B s_list (l_cons (e_V) l_nil)) l_nil))) (z_seq (z_tg (e_Fn hf__law_walk (l_cons (e_V) (l_cons (e_V) l_nil)))) (z_seq (z_if (t_Or (t_Not (t_U (e_Fn hf__law_same (l_cons (e_V) (l_cons (e_V) (l_cons (e_V) l_nil)))))) (t_Bl (e_Op s_ne (e_Sl (e_Fld (by unfold FldOk; decide +kernel) (e_V)) p_none (p_some (e_B s_len (l_cons (e_V) l_nil)))) (e_B s_tup (l_cons (e_V) l_nil))))) (z_ret (e_C (fun _ _ => rel_bl))) (z_nil)) (z_seq (z_if (t_Or (t_Bl (e_Op s_ne (e_Fld (by unfold FldOk; decide +kernel) (e_V)) (e_Op s_add (e_B s_len (l_cons (e_V) l_nil)) (e_B s_len (l_cons (e_V) l_nil))))) (t_Bl (e_Op s_ne (e_B s_tup (l_cons (e_B s_sorted (l_cons (e_V) l_nil)) l_nil)) (e_Meth (mt_cons hf_Heap_reached (by decide +kernel) (by decide +kernel) mt_nil) (e_V) (l_cons (e_V) l_nil))))) (z_ret (e_C (fun _ _ => rel_bl))) (z_nil)) (z_seq (z_if (t_Bl (e_Op s_ne (e_V) (e_B s_tup (l_cons (e_Lc (i_V (e_V)) (t_Yes) (e_Op s_add (e_B s_len (l_cons (e_V) l_nil)) (e_Idx (e_V) (l_cons (e_V) l_nil)))) l_nil)))) (z_ret (e_C (fun _ _ => rel_bl))) (z_nil)) (z_seq (z_for (i_R1 (e_B s_len (l_cons (e_V) l_nil))) (z_for (i_R1 (e_B s_len (l_cons (e_V) l_nil))) (z_seq (z_tg (e_Op s_get (e_Op s_get (e_V) (e_Op s_get (e_V) (e_V))) (e_V))) (z_seq (z_tg (e_If (t_U (e_Is (by unfold KdOk; decide +kernel) (e_V))) (e_Tup (l_cons (e_C (fun _ _ => rel_str)) (l_cons (e_Op s_add (e_B s_len (l_cons (e_V) l_nil)) (e_Idx (e_V) (l_cons (e_Op s_get (e_V) (e_C (fun _ _ => rel_int))) l_nil))) l_nil))) (e_V))) (z_if (t_Bl (e_Op s_ne (e_Op s_get (e_Op s_get (e_Fld (by unfold FldOk; decide +kernel) (e_V)) (e_Op s_add (e_B s_len (l_cons (e_V) l_nil)) (e_V))) (e_V)) (e_V))) (z_ret (e_C (fun _ _ => rel_bl))) (z_nil)))))) (z_if (t_Bl (e_Op s_ne (e_Lc (i_V (e_Meth (mt_cons hf_Heap_reached (by decide +kernel) (by decide +kernel) mt_nil) (e_V) (l_cons (e_V) l_nil))) (t_Bl (e_Op s_lt (e_V) (e_B s_len (l_cons (e_V) l_nil)))) (e_V)) (e_Lst l_nil))) (z_ret (e_C (fun _ _ => rel_bl))) (z_nil))))))))))))) (z_ret (e_C (fun _ _ => rel_bl))))))
    · exact mt_eq (D := d_Heap___init__) (by kernel_rfl) (e_Heap___init__ _) (f_fn (z_seq (z_exp (e_Fn hf_check_fields (l_cons (e_V) l_nil))) (z_seq (z_if (t_Bl (e_Op s_gt (e_B s_len (l_cons (e_V) l_nil)) (e_C (fun _ _ => rel_int)))) (z_bad) (z_nil)) (z_seq (z_fld (by unfold FldOk; decide +kernel) (e_V) (e_B s_tup (l_cons (e_V) l_nil))) (z_seq (z_fld (by unfold FldOk; decide +kernel) (e_V) (e_B s_len (l_cons (e_V) l_nil))) (z_seq (z_for (i_E (e_V)) (z_if (t_Or (t_Bl (e_Op s_ne (e_B s_len (l_cons (e_V) l_nil)) (e_B s_len (l_cons (e_Fld (by unfold FldOk; decide +kernel) (e_V)) l_nil)))) (t_Not (t_U (e_B s_all (l_cons (e_Lc (i_V (e_V)) (t_Yes) (e_Meth (mt_cons hf_Heap_may_hold (by decide +kernel) (by decide +kernel) mt_nil) (e_V) (l_cons (e_V) l_nil))) l_nil))))) (z_bad) (z_nil))) (z_fld (by unfold FldOk; decide +kernel) (e_V) (e_B s_tup (l_cons (e_Lc (i_V (e_V)) (t_Yes) (e_B s_tup (l_cons (e_V) l_nil))) l_nil)))))))))
    · exact mt_eq (D := d_Heap_may_hold) (by kernel_rfl) (e_Heap_may_hold _) (f_fn (z_ret (e_Or (e_Not (e_Fn hf_is_node (l_cons (e_V) l_nil))) (e_Chain s_le s_lt (e_C (fun _ _ => rel_int)) (e_Op s_get (e_V) (e_C (fun _ _ => rel_int))) (e_Fld (by unfold FldOk; decide +kernel) (e_V))))))
    · exact mt_eq (D := d_Heap_check) (by kernel_rfl) (e_Heap_check _) (f_fn (z_if (t_Not (t_Bl (e_Chain s_le s_lt (e_C (fun _ _ => rel_int)) (e_V) (e_Fld (by unfold FldOk; decide +kernel) (e_V))))) (z_bad) (z_nil)))
    · exact mt_eq (D := d_Heap_content) (by kernel_rfl) (e_Heap_content _) (f_fn (z_seq (z_exp (e_Meth (mt_cons hf_Heap_check (by decide +kernel) (by decide +kernel) mt_nil) (e_V) (l_cons (e_V) l_nil))) (z_seq (z_if (t_Bl (e_Op s_nin (e_V) (e_Fld (by unfold FldOk; decide +kernel) (e_V)))) (z_bad) (z_nil)) (z_ret (e_Op s_get (e_Op s_get (e_Fld (by unfold FldOk; decide +kernel) (e_V)) (e_V)) (e_Idx (e_Fld (by unfold FldOk; decide +kernel) (e_V)) (l_cons (e_V) l_nil)))))))
    · exact mt_eq (D := d_Heap_in_order) (by kernel_rfl) (e_Heap_in_order _) (f_pure (f_fn (z_seq (z_tg (e_LstM l_nil)) (z_seq (z_for (i_V (e_V)) (z_seq (z_exp (e_Meth (mt_cons hf_Heap_check (by decide +kernel) (by decide +kernel) mt_nil) (e_V) (l_cons (e_V) l_nil))) (z_if (t_Bl (e_Op s_nin (e_V) (e_V))) (z_exp (e_App (e_V) (l_cons (e_V) l_nil))) (z_nil)))) (z_seq (z_tg (e_C (fun _ _ => rel_int))) (z_seq (z_while (t_Bl (e_Op s_lt (e_V) (e_B s_len (l_cons (e_V) l_nil)))) (z_seq (z_tg (e_Op s_get (e_Fld (by unfold FldOk; decide +kernel) (e_V)) (e_Op s_get (e_V) (e_V)))) (z_seq (z_aug (e_C (fun _ _ => rel_int))) (z_for (i_V (e_V)) (z_if (t_And (t_U (e_Fn hf_is_node (l_cons (e_V) l_nil))) (t_Bl (e_Op s_nin (e_Op s_get (e_V) (e_C (fun _ _ => rel_int))) (e_V)))) (z_exp (e_App (e_V) (l_cons (e_Op s_get (e_V) (e_C (fun _ _ => rel_int))) l_nil))) (z_nil)))))) (z_ret (e_Frz (e_V)))))))))
    · exact mt_eq (D := d_Heap_reached) (by kernel_rfl) (e_Heap_reached _) (f_fn (z_ret (e_B s_tup (l_cons (e_B s_sorted (l_cons (e_Meth (mt_cons hf_Heap_in_order (by decide +kernel) (by decide +kernel) mt_nil) (e_V) (l_cons (e_V) l_nil)) l_nil)) l_nil))))
    · exact mt_eq (D := d_Heap_copied) (by kernel_rfl) (e_Heap_copied _) (f_pure (f_fn (z_seq (z_tg (e_Meth (mt_cons hf_Heap_in_order (by decide +kernel) (by decide +kernel) mt_nil) (e_V) (l_cons (e_V) l_nil))) (z_seq (z_tg (e_Dc (i_E (e_V)) (t_Yes) (e_V) (e_Op s_add (e_Fld (by unfold FldOk; decide +kernel) (e_V)) (e_V)))) (z_seq (z_tg (e_B s_listM (l_cons (e_Fld (by unfold FldOk; decide +kernel) (e_V)) l_nil))) (z_seq (z_for (i_V (e_V)) (z_exp (e_App (e_V) (l_cons (e_B s_tup (l_cons (e_Lc (i_V (e_Op s_get (e_Fld (by unfold FldOk; decide +kernel) (e_V)) (e_V))) (t_Yes) (e_If (t_U (e_Fn hf_is_node (l_cons (e_V) l_nil))) (e_Tup (l_cons (e_C (fun _ _ => rel_str)) (l_cons (e_Op s_getD (e_V) (e_Op s_get (e_V) (e_C (fun _ _ => rel_int)))) l_nil))) (e_V))) l_nil)) l_nil)))) (z_ret (e_Tup (l_cons (e_Fn (f_mk (c := 0) hf_Heap___init__) (l_cons (e_Fld (by unfold FldOk; decide +kernel) (e_V)) (l_cons (e_Frz (e_V)) l_nil))) (l_cons (e_B s_tup (l_cons (e_Lc (i_V (e_V)) (t_Yes) (e_Op s_getD (e_V) (e_V))) l_nil)) l_nil))))))))))
theorem w_law : w 9 13 = (v_law (v__law_fields vdraw (v__law_names vdraw (v__law_word vdraw))) vdraw (v__law_rows (v__law_content vdraw (v__law_number vdraw))) (v_Heap___init__ (v_check_fields (v_check_names v_fits_name)) (v_Heap_may_hold v_is_node)) (v_Heap_copied (v_Heap_in_order v_Heap_check v_is_node) v_is_node (v_Heap___init__ (v_check_fields (v_check_names v_fits_name)) (v_Heap_may_hold v_is_node))) v__law_walk v__law_same (v_Heap_reached (v_Heap_in_order v_Heap_check v_is_node))) := by rfl
theorem sim_law : FnS CT ((gm T fs ms 9).fn "law") (v_law (v__law_fields vdraw (v__law_names vdraw (v__law_word vdraw))) vdraw (v__law_rows (v__law_content vdraw (v__law_number vdraw))) (v_Heap___init__ (v_check_fields (v_check_names v_fits_name)) (v_Heap_may_hold v_is_node)) (v_Heap_copied (v_Heap_in_order v_Heap_check v_is_node) v_is_node (v_Heap___init__ (v_check_fields (v_check_names v_fits_name)) (v_Heap_may_hold v_is_node))) v__law_walk v__law_same (v_Heap_reached (v_Heap_in_order v_Heap_check v_is_node))) := by
  rw [← w_law]
  obtain ⟨hf_fits_name, hf_check_names, hf_check_fields, hf_is_node, hf__law_draw, hf__law_word, hf__law_names, hf__law_number, hf__law_content, hf__law_rows, hf__law_fields, hf__law_same, hf__law_walk, hf_law, hf_Heap___init__, hf_Heap_may_hold, hf_Heap_check, hf_Heap_content, hf_Heap_in_order, hf_Heap_reached, hf_Heap_copied⟩ := sim 9
  exact hf_law
end LawM
namespace LawM
open PySem L2 MP
theorem LawPure : ∀ ns : List Int, ns.length ≤ 63 → ∃ h', (MP.gm LawM.T LawM.fs LawM.ms 9).fn "law" [.ref 0] [.frz (ns.map MP.U.int)] = .ok (.bl true) h' :=
  MV.law_pure sim_law fun ns h => MV.law_v (MV.fields_ok MV.draw_sp (MV.names_ok MV.draw_sp (MV.word_ok MV.draw_sp))) MV.draw_sp (MV.rows_ok (MV.content_ok MV.draw_sp (MV.number_ok MV.draw_sp))) (MV.init_ok (MV.checkf_ok (MV.checkn_ok MV.fits_ok)) (MV.may_ok MV.isnode_ok)) (MV.copied_v (MV.order_v MV.check_ok MV.isnode_ok) MV.isnode_ok (MV.initG_ok (MV.checkfG_ok (MV.checknG_ok MV.fits_ok)) (MV.may_ok MV.isnode_ok))) MV.walk_v MV.same_v (MV.reached_v (MV.order_v MV.check_ok MV.isnode_ok)) ns h
theorem sc_fits_name : FnScope d_fits_name.N ["text"] (defScope s_fits_name) := ⟨rfl, rfl, rfl, by decide +kernel, rfl, by decide +kernel, by decide +kernel⟩
theorem k_fits_name {K : PySem.W.Frag} {f : Addr} {od an : Option Addr} {sl : Array (Option Value)} {oc kV dc pm cd ct : Value} (l : K.lookup f = some ⟨oc, od, .func (PySem.W.fnOf "fits_name" "fits_name" (defArgs s_fits_name) (defBody s_fits_name) (defScope s_fits_name) .none kV dc pm an cd ct), sl⟩) (c : PySem.W.codeIn K cd "fits_name" = true) : FnK K d_fits_name f 1 [] :=
  ⟨_, DefK.mk l c, sc_fits_name, rfl, rfl, dfl0 (Binds.all fun us hl => match us, hl with | [_], _ => rfl)⟩
theorem sc_check_names : FnScope d_check_names.N ["names", "most"] (defScope s_check_names) := ⟨rfl, rfl, rfl, by decide +kernel, rfl, by decide +kernel, by decide +kernel⟩
theorem k_check_names {K : PySem.W.Frag} {f : Addr} {od an : Option Addr} {sl : Array (Option Value)} {oc kV dc pm cd ct : Value} (l : K.lookup f = some ⟨oc, od, .func (PySem.W.fnOf "check_names" "check_names" (defArgs s_check_names) (defBody s_check_names) (defScope s_check_names) .none kV dc pm an cd ct), sl⟩) (c : PySem.W.codeIn K cd "check_names" = true) : FnK K d_check_names f 2 [] :=
  ⟨_, DefK.mk l c, sc_check_names, rfl, rfl, dfl0 (Binds.all fun us hl => match us, hl with | [_, _], _ => rfl)⟩
theorem sc_check_fields : FnScope d_check_fields.N ["fields"] (defScope s_check_fields) := ⟨rfl, rfl, rfl, by decide +kernel, rfl, by decide +kernel, by decide +kernel⟩
theorem k_check_fields {K : PySem.W.Frag} {f : Addr} {od an : Option Addr} {sl : Array (Option Value)} {oc kV dc pm cd ct : Value} (l : K.lookup f = some ⟨oc, od, .func (PySem.W.fnOf "check_fields" "check_fields" (defArgs s_check_fields) (defBody s_check_fields) (defScope s_check_fields) .none kV dc pm an cd ct), sl⟩) (c : PySem.W.codeIn K cd "check_fields" = true) : FnK K d_check_fields f 1 [] :=
  ⟨_, DefK.mk l c, sc_check_fields, rfl, rfl, dfl0 (Binds.all fun us hl => match us, hl with | [_], _ => rfl)⟩
theorem sc_is_node : FnScope d_is_node.N ["content"] (defScope s_is_node) := ⟨rfl, rfl, rfl, by decide +kernel, rfl, by decide +kernel, by decide +kernel⟩
theorem k_is_node {K : PySem.W.Frag} {f : Addr} {od an : Option Addr} {sl : Array (Option Value)} {oc kV dc pm cd ct : Value} (l : K.lookup f = some ⟨oc, od, .func (PySem.W.fnOf "is_node" "is_node" (defArgs s_is_node) (defBody s_is_node) (defScope s_is_node) .none kV dc pm an cd ct), sl⟩) (c : PySem.W.codeIn K cd "is_node" = true) : FnK K d_is_node f 1 [] :=
  ⟨_, DefK.mk l c, sc_is_node, rfl, rfl, dfl0 (Binds.all fun us hl => match us, hl with | [_], _ => rfl)⟩
theorem sc__law_draw : FnScope d__law_draw.N ["_law_pen", "_law_many"] (defScope s__law_draw) := ⟨rfl, rfl, rfl, by decide +kernel, rfl, by decide +kernel, by decide +kernel⟩
theorem k__law_draw {K : PySem.W.Frag} {f : Addr} {od an : Option Addr} {sl : Array (Option Value)} {oc kV dc pm cd ct : Value} (l : K.lookup f = some ⟨oc, od, .func (PySem.W.fnOf "_law_draw" "_law_draw" (defArgs s__law_draw) (defBody s__law_draw) (defScope s__law_draw) .none kV dc pm an cd ct), sl⟩) (c : PySem.W.codeIn K cd "_law_draw" = true) : FnK K d__law_draw f 2 [] :=
  ⟨_, DefK.mk l c, sc__law_draw, rfl, rfl, dfl0 (Binds.all fun us hl => match us, hl with | [_, _], _ => rfl)⟩
theorem sc__law_word : FnScope d__law_word.N ["_law_pen", "_law_most"] (defScope s__law_word) := ⟨rfl, rfl, rfl, by decide +kernel, rfl, by decide +kernel, by decide +kernel⟩
theorem k__law_word {K : PySem.W.Frag} {f : Addr} {od an : Option Addr} {sl : Array (Option Value)} {oc kV dc pm cd ct : Value} (l : K.lookup f = some ⟨oc, od, .func (PySem.W.fnOf "_law_word" "_law_word" (defArgs s__law_word) (defBody s__law_word) (defScope s__law_word) .none kV dc pm an cd ct), sl⟩) (c : PySem.W.codeIn K cd "_law_word" = true) : FnK K d__law_word f 2 [] :=
  ⟨_, DefK.mk l c, sc__law_word, rfl, rfl, dfl0 (Binds.all fun us hl => match us, hl with | [_, _], _ => rfl)⟩
theorem sc__law_names : FnScope d__law_names.N ["_law_pen", "_law_many"] (defScope s__law_names) := ⟨rfl, rfl, rfl, by decide +kernel, rfl, by decide +kernel, by decide +kernel⟩
theorem k__law_names {K : PySem.W.Frag} {f : Addr} {od an : Option Addr} {sl : Array (Option Value)} {oc kV dc pm cd ct : Value} (l : K.lookup f = some ⟨oc, od, .func (PySem.W.fnOf "_law_names" "_law_names" (defArgs s__law_names) (defBody s__law_names) (defScope s__law_names) .none kV dc pm an cd ct), sl⟩) (c : PySem.W.codeIn K cd "_law_names" = true) : FnK K d__law_names f 2 [] :=
  ⟨_, DefK.mk l c, sc__law_names, rfl, rfl, dfl0 (Binds.all fun us hl => match us, hl with | [_, _], _ => rfl)⟩
theorem sc__law_number : FnScope d__law_number.N ["_law_pen"] (defScope s__law_number) := ⟨rfl, rfl, rfl, by decide +kernel, rfl, by decide +kernel, by decide +kernel⟩
theorem k__law_number {K : PySem.W.Frag} {f : Addr} {od an : Option Addr} {sl : Array (Option Value)} {oc kV dc pm cd ct : Value} (l : K.lookup f = some ⟨oc, od, .func (PySem.W.fnOf "_law_number" "_law_number" (defArgs s__law_number) (defBody s__law_number) (defScope s__law_number) .none kV dc pm an cd ct), sl⟩) (c : PySem.W.codeIn K cd "_law_number" = true) : FnK K d__law_number f 1 [] :=
  ⟨_, DefK.mk l c, sc__law_number, rfl, rfl, dfl0 (Binds.all fun us hl => match us, hl with | [_], _ => rfl)⟩
theorem sc__law_content : FnScope d__law_content.N ["_law_pen", "_law_size"] (defScope s__law_content) := ⟨rfl, rfl, rfl, by decide +kernel, rfl, by decide +kernel, by decide +kernel⟩
theorem k__law_content {K : PySem.W.Frag} {f : Addr} {od an : Option Addr} {sl : Array (Option Value)} {oc kV dc pm cd ct : Value} (l : K.lookup f = some ⟨oc, od, .func (PySem.W.fnOf "_law_content" "_law_content" (defArgs s__law_content) (defBody s__law_content) (defScope s__law_content) .none kV dc pm an cd ct), sl⟩) (c : PySem.W.codeIn K cd "_law_content" = true) : FnK K d__law_content f 2 [] :=
  ⟨_, DefK.mk l c, sc__law_content, rfl, rfl, dfl0 (Binds.all fun us hl => match us, hl with | [_, _], _ => rfl)⟩
theorem sc__law_rows : FnScope d__law_rows.N ["_law_pen", "_law_fields_here", "_law_size"] (defScope s__law_rows) := ⟨rfl, rfl, rfl, by decide +kernel, rfl, by decide +kernel, by decide +kernel⟩
theorem k__law_rows {K : PySem.W.Frag} {f : Addr} {od an : Option Addr} {sl : Array (Option Value)} {oc kV dc pm cd ct : Value} (l : K.lookup f = some ⟨oc, od, .func (PySem.W.fnOf "_law_rows" "_law_rows" (defArgs s__law_rows) (defBody s__law_rows) (defScope s__law_rows) .none kV dc pm an cd ct), sl⟩) (c : PySem.W.codeIn K cd "_law_rows" = true) : FnK K d__law_rows f 3 [] :=
  ⟨_, DefK.mk l c, sc__law_rows, rfl, rfl, dfl0 (Binds.all fun us hl => match us, hl with | [_, _, _], _ => rfl)⟩
theorem sc__law_fields : FnScope d__law_fields.N ["_law_pen"] (defScope s__law_fields) := ⟨rfl, rfl, rfl, by decide +kernel, rfl, by decide +kernel, by decide +kernel⟩
theorem k__law_fields {K : PySem.W.Frag} {f : Addr} {od an : Option Addr} {sl : Array (Option Value)} {oc kV dc pm cd ct : Value} (l : K.lookup f = some ⟨oc, od, .func (PySem.W.fnOf "_law_fields" "_law_fields" (defArgs s__law_fields) (defBody s__law_fields) (defScope s__law_fields) .none kV dc pm an cd ct), sl⟩) (c : PySem.W.codeIn K cd "_law_fields" = true) : FnK K d__law_fields f 1 [] :=
  ⟨_, DefK.mk l c, sc__law_fields, rfl, rfl, dfl0 (Binds.all fun us hl => match us, hl with | [_], _ => rfl)⟩
theorem sc__law_same : FnScope d__law_same.N ["_law_heap", "_law_fields_here", "_law_rows_here"] (defScope s__law_same) := ⟨rfl, rfl, rfl, by decide +kernel, rfl, by decide +kernel, by decide +kernel⟩
theorem k__law_same {K : PySem.W.Frag} {f : Addr} {od an : Option Addr} {sl : Array (Option Value)} {oc kV dc pm cd ct : Value} (l : K.lookup f = some ⟨oc, od, .func (PySem.W.fnOf "_law_same" "_law_same" (defArgs s__law_same) (defBody s__law_same) (defScope s__law_same) .none kV dc pm an cd ct), sl⟩) (c : PySem.W.codeIn K cd "_law_same" = true) : FnK K d__law_same f 3 [] :=
  ⟨_, DefK.mk l c, sc__law_same, rfl, rfl, dfl0 (Binds.all fun us hl => match us, hl with | [_, _, _], _ => rfl)⟩
theorem sc__law_walk : FnScope d__law_walk.N ["_law_rows_here", "_law_nodes"] (defScope s__law_walk) := ⟨rfl, rfl, rfl, by decide +kernel, rfl, by decide +kernel, by decide +kernel⟩
theorem k__law_walk {K : PySem.W.Frag} {f : Addr} {od an : Option Addr} {sl : Array (Option Value)} {oc kV dc pm cd ct : Value} (l : K.lookup f = some ⟨oc, od, .func (PySem.W.fnOf "_law_walk" "_law_walk" (defArgs s__law_walk) (defBody s__law_walk) (defScope s__law_walk) .none kV dc pm an cd ct), sl⟩) (c : PySem.W.codeIn K cd "_law_walk" = true) : FnK K d__law_walk f 2 [] :=
  ⟨_, DefK.mk l c, sc__law_walk, rfl, rfl, dfl0 (Binds.all fun us hl => match us, hl with | [_, _], _ => rfl)⟩
theorem sc_law : FnScope d_law.N ["_law_script"] (defScope s_law) := ⟨rfl, rfl, rfl, by decide +kernel, rfl, by decide +kernel, by decide +kernel⟩
theorem k_law {K : PySem.W.Frag} {f : Addr} {od an : Option Addr} {sl : Array (Option Value)} {oc kV dc pm cd ct : Value} (l : K.lookup f = some ⟨oc, od, .func (PySem.W.fnOf "law" "law" (defArgs s_law) (defBody s_law) (defScope s_law) .none kV dc pm an cd ct), sl⟩) (c : PySem.W.codeIn K cd "law" = true) : FnK K d_law f 1 [] :=
  ⟨_, DefK.mk l c, sc_law, rfl, rfl, dfl0 (Binds.all fun us hl => match us, hl with | [_], _ => rfl)⟩
theorem sc_Heap___init__ : FnScope d_Heap___init__.N ["self", "fields", "rows"] (defScope s_Heap___init__) := ⟨rfl, rfl, rfl, by decide +kernel, rfl, by decide +kernel, by decide +kernel⟩
theorem k_Heap___init__ {K : PySem.W.Frag} {f : Addr} {od an : Option Addr} {sl : Array (Option Value)} {oc kV dc pm cd ct : Value} (l : K.lookup f = some ⟨oc, od, .func (PySem.W.fnOf "__init__" "Heap.__init__" (defArgs s_Heap___init__) (defBody s_Heap___init__) (defScope s_Heap___init__) .none kV dc pm an cd ct), sl⟩) (c : PySem.W.codeIn K cd "Heap.__init__" = true) : FnK K d_Heap___init__ f 3 [] :=
  ⟨_, DefK.mk l c, sc_Heap___init__, rfl, rfl, dfl0 (Binds.all fun us hl => match us, hl with | [_, _, _], _ => rfl)⟩
theorem sc_Heap_may_hold : FnScope d_Heap_may_hold.N ["self", "content"] (defScope s_Heap_may_hold) := ⟨rfl, rfl, rfl, by decide +kernel, rfl, by decide +kernel, by decide +kernel⟩
theorem k_Heap_may_hold {K : PySem.W.Frag} {f : Addr} {od an : Option Addr} {sl : Array (Option Value)} {oc kV dc pm cd ct : Value} (l : K.lookup f = some ⟨oc, od, .func (PySem.W.fnOf "may_hold" "Heap.may_hold" (defArgs s_Heap_may_hold) (defBody s_Heap_may_hold) (defScope s_Heap_may_hold) .none kV dc pm an cd ct), sl⟩) (c : PySem.W.codeIn K cd "Heap.may_hold" = true) : FnK K d_Heap_may_hold f 2 [] :=
  ⟨_, DefK.mk l c, sc_Heap_may_hold, rfl, rfl, dfl0 (Binds.all fun us hl => match us, hl with | [_, _], _ => rfl)⟩
theorem sc_Heap_check : FnScope d_Heap_check.N ["self", "node"] (defScope s_Heap_check) := ⟨rfl, rfl, rfl, by decide +kernel, rfl, by decide +kernel, by decide +kernel⟩
theorem k_Heap_check {K : PySem.W.Frag} {f : Addr} {od an : Option Addr} {sl : Array (Option Value)} {oc kV dc pm cd ct : Value} (l : K.lookup f = some ⟨oc, od, .func (PySem.W.fnOf "check" "Heap.check" (defArgs s_Heap_check) (defBody s_Heap_check) (defScope s_Heap_check) .none kV dc pm an cd ct), sl⟩) (c : PySem.W.codeIn K cd "Heap.check" = true) : FnK K d_Heap_check f 2 [] :=
  ⟨_, DefK.mk l c, sc_Heap_check, rfl, rfl, dfl0 (Binds.all fun us hl => match us, hl with | [_, _], _ => rfl)⟩
theorem sc_Heap_content : FnScope d_Heap_content.N ["self", "node", "field"] (defScope s_Heap_content) := ⟨rfl, rfl, rfl, by decide +kernel, rfl, by decide +kernel, by decide +kernel⟩
theorem k_Heap_content {K : PySem.W.Frag} {f : Addr} {od an : Option Addr} {sl : Array (Option Value)} {oc kV dc pm cd ct : Value} (l : K.lookup f = some ⟨oc, od, .func (PySem.W.fnOf "content" "Heap.content" (defArgs s_Heap_content) (defBody s_Heap_content) (defScope s_Heap_content) .none kV dc pm an cd ct), sl⟩) (c : PySem.W.codeIn K cd "Heap.content" = true) : FnK K d_Heap_content f 3 [] :=
  ⟨_, DefK.mk l c, sc_Heap_content, rfl, rfl, dfl0 (Binds.all fun us hl => match us, hl with | [_, _, _], _ => rfl)⟩
theorem sc_Heap_in_order : FnScope d_Heap_in_order.N ["self", "nodes"] (defScope s_Heap_in_order) := ⟨rfl, rfl, rfl, by decide +kernel, rfl, by decide +kernel, by decide +kernel⟩
theorem k_Heap_in_order {K : PySem.W.Frag} {f : Addr} {od an : Option Addr} {sl : Array (Option Value)} {oc kV dc pm cd ct : Value} (l : K.lookup f = some ⟨oc, od, .func (PySem.W.fnOf "in_order" "Heap.in_order" (defArgs s_Heap_in_order) (defBody s_Heap_in_order) (defScope s_Heap_in_order) .none kV dc pm an cd ct), sl⟩) (c : PySem.W.codeIn K cd "Heap.in_order" = true) : FnK K d_Heap_in_order f 2 [] :=
  ⟨_, DefK.mk l c, sc_Heap_in_order, rfl, rfl, dfl0 (Binds.all fun us hl => match us, hl with | [_, _], _ => rfl)⟩
theorem sc_Heap_reached : FnScope d_Heap_reached.N ["self", "nodes"] (defScope s_Heap_reached) := ⟨rfl, rfl, rfl, by decide +kernel, rfl, by decide +kernel, by decide +kernel⟩
theorem k_Heap_reached {K : PySem.W.Frag} {f : Addr} {od an : Option Addr} {sl : Array (Option Value)} {oc kV dc pm cd ct : Value} (l : K.lookup f = some ⟨oc, od, .func (PySem.W.fnOf "reached" "Heap.reached" (defArgs s_Heap_reached) (defBody s_Heap_reached) (defScope s_Heap_reached) .none kV dc pm an cd ct), sl⟩) (c : PySem.W.codeIn K cd "Heap.reached" = true) : FnK K d_Heap_reached f 2 [] :=
  ⟨_, DefK.mk l c, sc_Heap_reached, rfl, rfl, dfl0 (Binds.all fun us hl => match us, hl with | [_, _], _ => rfl)⟩
theorem sc_Heap_copied : FnScope d_Heap_copied.N ["self", "nodes"] (defScope s_Heap_copied) := ⟨rfl, rfl, rfl, by decide +kernel, rfl, by decide +kernel, by decide +kernel⟩
theorem k_Heap_copied {K : PySem.W.Frag} {f : Addr} {od an : Option Addr} {sl : Array (Option Value)} {oc kV dc pm cd ct : Value} (l : K.lookup f = some ⟨oc, od, .func (PySem.W.fnOf "copied" "Heap.copied" (defArgs s_Heap_copied) (defBody s_Heap_copied) (defScope s_Heap_copied) .none kV dc pm an cd ct), sl⟩) (c : PySem.W.codeIn K cd "Heap.copied" = true) : FnK K d_Heap_copied f 2 [] :=
  ⟨_, DefK.mk l c, sc_Heap_copied, rfl, rfl, dfl0 (Binds.all fun us hl => match us, hl with | [_, _], _ => rfl)⟩
section
variable {K : PySem.W.Frag} {h : Heap} {mg : Str → Option Value}
theorem kf_of {f_fits_name f_check_names f_check_fields f_is_node f__law_draw f__law_word f__law_names f__law_number f__law_content f__law_rows f__law_fields f__law_same f__law_walk f_law f_Heap___init__ f_Heap_may_hold f_Heap_check f_Heap_content f_Heap_in_order f_Heap_reached f_Heap_copied C_Heap : Addr} {t_LETTERS t_FIELDS t_NODES : Tok} (X : K.In h) (G : h.Ns mainGlobals mg) (hfa : mg "law" = some (.ref f_law)) (F_law : FnK K d_law f_law 1 []) (p_law : PySem.W.keepIn K (.ref f_law) = true)
    (a_fits_name : PySem.W.nsIn K mainGlobals "fits_name" = some (some (.ref f_fits_name)))
    (F_fits_name : FnK K d_fits_name f_fits_name 1 [])
    (p_fits_name : PySem.W.keepIn K (.ref f_fits_name) = true)
    (a_check_names : PySem.W.nsIn K mainGlobals "check_names" = some (some (.ref f_check_names)))
    (F_check_names : FnK K d_check_names f_check_names 2 [])
    (p_check_names : PySem.W.keepIn K (.ref f_check_names) = true)
    (a_check_fields : PySem.W.nsIn K mainGlobals "check_fields" = some (some (.ref f_check_fields)))
    (F_check_fields : FnK K d_check_fields f_check_fields 1 [])
    (p_check_fields : PySem.W.keepIn K (.ref f_check_fields) = true)
    (a_is_node : PySem.W.nsIn K mainGlobals "is_node" = some (some (.ref f_is_node)))
    (F_is_node : FnK K d_is_node f_is_node 1 [])
    (p_is_node : PySem.W.keepIn K (.ref f_is_node) = true)
    (a__law_draw : PySem.W.nsIn K mainGlobals "_law_draw" = some (some (.ref f__law_draw)))
    (F__law_draw : FnK K d__law_draw f__law_draw 2 [])
    (p__law_draw : PySem.W.keepIn K (.ref f__law_draw) = true)
    (a__law_word : PySem.W.nsIn K mainGlobals "_law_word" = some (some (.ref f__law_word)))
    (F__law_word : FnK K d__law_word f__law_word 2 [])
    (p__law_word : PySem.W.keepIn K (.ref f__law_word) = true)
    (a__law_names : PySem.W.nsIn K mainGlobals "_law_names" = some (some (.ref f__law_names)))
    (F__law_names : FnK K d__law_names f__law_names 2 [])
    (p__law_names : PySem.W.keepIn K (.ref f__law_names) = true)
    (a__law_number : PySem.W.nsIn K mainGlobals "_law_number" = some (some (.ref f__law_number)))
    (F__law_number : FnK K d__law_number f__law_number 1 [])
    (p__law_number : PySem.W.keepIn K (.ref f__law_number) = true)
    (a__law_content : PySem.W.nsIn K mainGlobals "_law_content" = some (some (.ref f__law_content)))
    (F__law_content : FnK K d__law_content f__law_content 2 [])
    (p__law_content : PySem.W.keepIn K (.ref f__law_content) = true)
    (a__law_rows : PySem.W.nsIn K mainGlobals "_law_rows" = some (some (.ref f__law_rows)))
    (F__law_rows : FnK K d__law_rows f__law_rows 3 [])
    (p__law_rows : PySem.W.keepIn K (.ref f__law_rows) = true)
    (a__law_fields : PySem.W.nsIn K mainGlobals "_law_fields" = some (some (.ref f__law_fields)))
    (F__law_fields : FnK K d__law_fields f__law_fields 1 [])
    (p__law_fields : PySem.W.keepIn K (.ref f__law_fields) = true)
    (a__law_same : PySem.W.nsIn K mainGlobals "_law_same" = some (some (.ref f__law_same)))
    (F__law_same : FnK K d__law_same f__law_same 3 [])
    (p__law_same : PySem.W.keepIn K (.ref f__law_same) = true)
    (a__law_walk : PySem.W.nsIn K mainGlobals "_law_walk" = some (some (.ref f__law_walk)))
    (F__law_walk : FnK K d__law_walk f__law_walk 2 [])
    (p__law_walk : PySem.W.keepIn K (.ref f__law_walk) = true)
    (A_Heap : PySem.W.nsIn K mainGlobals "Heap" = some (some (.ref C_Heap)))
    (pg_Heap : PySem.W.plainGet K C_Heap Str.empty = true)
    (hd_Heap : PySem.W.hasDictIn K C_Heap = true)
    (po_Heap : PySem.W.plainOver K C_Heap = true)
    (sa_Heap : PySem.W.findIn K (.ref C_Heap) "__setattr__" = some (some (.builtin "object.__setattr__")))
    (mk_Heap : PySem.W.makesIn K C_Heap = true)
    (kc_Heap : PySem.W.keepIn K (.ref C_Heap) = true)
    (a_Heap___init__ : PySem.W.findIn K (.ref C_Heap) "__init__" = some (some (.ref f_Heap___init__)))
    (i_Heap___init__ : PySem.W.isFn K (.ref f_Heap___init__) = true)
    (F_Heap___init__ : FnK K d_Heap___init__ f_Heap___init__ 3 [])
    (p_Heap___init__ : PySem.W.keepIn K (.ref f_Heap___init__) = true)
    (a_Heap_may_hold : PySem.W.findIn K (.ref C_Heap) "may_hold" = some (some (.ref f_Heap_may_hold)))
    (i_Heap_may_hold : PySem.W.isFn K (.ref f_Heap_may_hold) = true)
    (F_Heap_may_hold : FnK K d_Heap_may_hold f_Heap_may_hold 2 [])
    (p_Heap_may_hold : PySem.W.keepIn K (.ref f_Heap_may_hold) = true)
    (a_Heap_check : PySem.W.findIn K (.ref C_Heap) "check" = some (some (.ref f_Heap_check)))
    (i_Heap_check : PySem.W.isFn K (.ref f_Heap_check) = true)
    (F_Heap_check : FnK K d_Heap_check f_Heap_check 2 [])
    (p_Heap_check : PySem.W.keepIn K (.ref f_Heap_check) = true)
    (a_Heap_content : PySem.W.findIn K (.ref C_Heap) "content" = some (some (.ref f_Heap_content)))
    (i_Heap_content : PySem.W.isFn K (.ref f_Heap_content) = true)
    (F_Heap_content : FnK K d_Heap_content f_Heap_content 3 [])
    (p_Heap_content : PySem.W.keepIn K (.ref f_Heap_content) = true)
    (a_Heap_in_order : PySem.W.findIn K (.ref C_Heap) "in_order" = some (some (.ref f_Heap_in_order)))
    (i_Heap_in_order : PySem.W.isFn K (.ref f_Heap_in_order) = true)
    (F_Heap_in_order : FnK K d_Heap_in_order f_Heap_in_order 2 [])
    (p_Heap_in_order : PySem.W.keepIn K (.ref f_Heap_in_order) = true)
    (a_Heap_reached : PySem.W.findIn K (.ref C_Heap) "reached" = some (some (.ref f_Heap_reached)))
    (i_Heap_reached : PySem.W.isFn K (.ref f_Heap_reached) = true)
    (F_Heap_reached : FnK K d_Heap_reached f_Heap_reached 2 [])
    (p_Heap_reached : PySem.W.keepIn K (.ref f_Heap_reached) = true)
    (a_Heap_copied : PySem.W.findIn K (.ref C_Heap) "copied" = some (some (.ref f_Heap_copied)))
    (i_Heap_copied : PySem.W.isFn K (.ref f_Heap_copied) = true)
    (F_Heap_copied : FnK K d_Heap_copied f_Heap_copied 2 [])
    (p_Heap_copied : PySem.W.keepIn K (.ref f_Heap_copied) = true)
    (n_Heap_fields : PySem.W.findIn K (.ref C_Heap) "fields" = some none)
    (n_Heap_size : PySem.W.findIn K (.ref C_Heap) "size" = some none)
    (n_Heap_rows : PySem.W.findIn K (.ref C_Heap) "rows" = some none)
    (g_LETTERS : PySem.W.nsIn K mainGlobals "LETTERS" = some (some (.str "abcdefghijklmnopqrstuvwxyz" t_LETTERS)))
    (g_FIELDS : PySem.W.nsIn K mainGlobals "FIELDS" = some (some (.int 3 t_FIELDS)))
    (g_NODES : PySem.W.nsIn K mainGlobals "NODES" = some (some (.int 400 t_NODES)))
    (z_len : PySem.W.nsIn K mainGlobals "len" = some none)
    (z_int : PySem.W.nsIn K mainGlobals "int" = some none)
    (z_tuple : PySem.W.nsIn K mainGlobals "tuple" = some none)
    (z_list : PySem.W.nsIn K mainGlobals "list" = some none)
    (z_sorted : PySem.W.nsIn K mainGlobals "sorted" = some none)
    (z_sum : PySem.W.nsIn K mainGlobals "sum" = some none)
    (z_max : PySem.W.nsIn K mainGlobals "max" = some none)
    (z_min : PySem.W.nsIn K mainGlobals "min" = some none)
    (z_abs : PySem.W.nsIn K mainGlobals "abs" = some none)
    (z_all : PySem.W.nsIn K mainGlobals "all" = some none)
    (z_any : PySem.W.nsIn K mainGlobals "any" = some none)
    (z_isinstance : PySem.W.nsIn K mainGlobals "isinstance" = some none)
    (z_range : PySem.W.nsIn K mainGlobals "range" = some none)
    (z_enumerate : PySem.W.nsIn K mainGlobals "enumerate" = some none)
    (z_zip : PySem.W.nsIn K mainGlobals "zip" = some none)
    (k_Heap_NoneType : PySem.W.kitOne K (.type "NoneType") (.ref C_Heap) = some false)
    (k_Heap_bool : PySem.W.kitOne K (.type "bool") (.ref C_Heap) = some false)
    (k_Heap_int : PySem.W.kitOne K (.type "int") (.ref C_Heap) = some false)
    (k_Heap_str : PySem.W.kitOne K (.type "str") (.ref C_Heap) = some false)
    (k_Heap_tuple : PySem.W.kitOne K (.type "tuple") (.ref C_Heap) = some false)
    (k_Heap_list : PySem.W.kitOne K (.type "list") (.ref C_Heap) = some false)
    (k_Heap_dict : PySem.W.kitOne K (.type "dict") (.ref C_Heap) = some false)
    (k_Heap_Heap : PySem.W.kitOne K (.ref C_Heap) (.ref C_Heap) = some true)
    (ic_Heap : PySem.W.findIn K (.ref C_Heap) "__class__" = some (some (.builtin "object.__class__")))
    (im_Heap : PySem.W.mroIn K C_Heap (.type "object") = some true)
    (k_tuple_Heap : PySem.W.kitOne K (.ref C_Heap) (.type "tuple") = some false)
    (ic_s : PySem.W.specialIn K (.builtin "object.__class__") "__get__" = some (some (.builtin "getset_descriptor.__get__")))
    (ic_t : PySem.W.takesIn K (.builtin "object.__class__") = some true) : KF T fs ms K mg := by
  have hC : InsF K mg T.kc := by
    intro d hd D hD
    rcases List.mem_cons.mp hd with rfl | hd
    · rw [PySem.W.mg_of X G A_Heap] at hD
      cases hD
      exact ⟨⟨pg_Heap, hd_Heap, po_Heap, sa_Heap⟩, ic_Heap, ic_s, ic_t, im_Heap⟩
    cases hd
  refine ⟨?_, ?_, ?_, ?_, ?_, ?_, ?_, hC⟩
  · refine ⟨⟨d_fits_name, f_fits_name, by kernel_rfl, F_fits_name, PySem.W.mg_of X G a_fits_name, p_fits_name⟩, ?_⟩
    refine ⟨⟨d_check_names, f_check_names, by kernel_rfl, F_check_names, PySem.W.mg_of X G a_check_names, p_check_names⟩, ?_⟩
    refine ⟨⟨d_check_fields, f_check_fields, by kernel_rfl, F_check_fields, PySem.W.mg_of X G a_check_fields, p_check_fields⟩, ?_⟩
    refine ⟨⟨d_is_node, f_is_node, by kernel_rfl, F_is_node, PySem.W.mg_of X G a_is_node, p_is_node⟩, ?_⟩
    refine ⟨⟨d__law_draw, f__law_draw, by kernel_rfl, F__law_draw, PySem.W.mg_of X G a__law_draw, p__law_draw⟩, ?_⟩
    refine ⟨⟨d__law_word, f__law_word, by kernel_rfl, F__law_word, PySem.W.mg_of X G a__law_word, p__law_word⟩, ?_⟩
    refine ⟨⟨d__law_names, f__law_names, by kernel_rfl, F__law_names, PySem.W.mg_of X G a__law_names, p__law_names⟩, ?_⟩
    refine ⟨⟨d__law_number, f__law_number, by kernel_rfl, F__law_number, PySem.W.mg_of X G a__law_number, p__law_number⟩, ?_⟩
    refine ⟨⟨d__law_content, f__law_content, by kernel_rfl, F__law_content, PySem.W.mg_of X G a__law_content, p__law_content⟩, ?_⟩
    refine ⟨⟨d__law_rows, f__law_rows, by kernel_rfl, F__law_rows, PySem.W.mg_of X G a__law_rows, p__law_rows⟩, ?_⟩
    refine ⟨⟨d__law_fields, f__law_fields, by kernel_rfl, F__law_fields, PySem.W.mg_of X G a__law_fields, p__law_fields⟩, ?_⟩
    refine ⟨⟨d__law_same, f__law_same, by kernel_rfl, F__law_same, PySem.W.mg_of X G a__law_same, p__law_same⟩, ?_⟩
    refine ⟨⟨d__law_walk, f__law_walk, by kernel_rfl, F__law_walk, PySem.W.mg_of X G a__law_walk, p__law_walk⟩, ?_⟩
    refine ⟨⟨d_law, f_law, by kernel_rfl, F_law, hfa, p_law⟩, ?_⟩
    trivial
  · refine ⟨⟨d_Heap___init__, f_Heap___init__, C_Heap, by kernel_rfl, F_Heap___init__, PySem.W.mg_of X G A_Heap, ⟨mk_Heap, a_Heap___init__, i_Heap___init__, kc_Heap⟩⟩, ?_⟩
    trivial
  · apply And.intro
    · exact fun c hc => by
        rcases List.mem_cons.mp hc with rfl | hc
        · exact ⟨d_Heap_may_hold, f_Heap_may_hold, C_Heap, by kernel_rfl, F_Heap_may_hold, PySem.W.mg_of X G A_Heap, ⟨pg_Heap, hd_Heap, po_Heap, sa_Heap⟩, ⟨a_Heap_may_hold, i_Heap_may_hold, p_Heap_may_hold⟩⟩
        cases hc
    apply And.intro
    · exact fun c hc => by
        rcases List.mem_cons.mp hc with rfl | hc
        · exact ⟨d_Heap_check, f_Heap_check, C_Heap, by kernel_rfl, F_Heap_check, PySem.W.mg_of X G A_Heap, ⟨pg_Heap, hd_Heap, po_Heap, sa_Heap⟩, ⟨a_Heap_check, i_Heap_check, p_Heap_check⟩⟩
        cases hc
    apply And.intro
    · exact fun c hc => by
        rcases List.mem_cons.mp hc with rfl | hc
        · exact ⟨d_Heap_content, f_Heap_content, C_Heap, by kernel_rfl, F_Heap_content, PySem.W.mg_of X G A_Heap, ⟨pg_Heap, hd_Heap, po_Heap, sa_Heap⟩, ⟨a_Heap_content, i_Heap_content, p_Heap_content⟩⟩
        cases hc
    apply And.intro
    · exact fun c hc => by
        rcases List.mem_cons.mp hc with rfl | hc
        · exact ⟨d_Heap_in_order, f_Heap_in_order, C_Heap, by kernel_rfl, F_Heap_in_order, PySem.W.mg_of X G A_Heap, ⟨pg_Heap, hd_Heap, po_Heap, sa_Heap⟩, ⟨a_Heap_in_order, i_Heap_in_order, p_Heap_in_order⟩⟩
        cases hc
    apply And.intro
    · exact fun c hc => by
        rcases List.mem_cons.mp hc with rfl | hc
        · exact ⟨d_Heap_reached, f_Heap_reached, C_Heap, by kernel_rfl, F_Heap_reached, PySem.W.mg_of X G A_Heap, ⟨pg_Heap, hd_Heap, po_Heap, sa_Heap⟩, ⟨a_Heap_reached, i_Heap_reached, p_Heap_reached⟩⟩
        cases hc
    apply And.intro
    · exact fun c hc => by
        rcases List.mem_cons.mp hc with rfl | hc
        · exact ⟨d_Heap_copied, f_Heap_copied, C_Heap, by kernel_rfl, F_Heap_copied, PySem.W.mg_of X G A_Heap, ⟨pg_Heap, hd_Heap, po_Heap, sa_Heap⟩, ⟨a_Heap_copied, i_Heap_copied, p_Heap_copied⟩⟩
        cases hc
    trivial
  · apply And.intro
    · exact fun c hc => by
        rcases List.mem_cons.mp hc with rfl | hc
        · exact ⟨C_Heap, PySem.W.mg_of X G A_Heap, ⟨pg_Heap, hd_Heap, po_Heap, sa_Heap⟩, n_Heap_fields⟩
        cases hc
    apply And.intro
    · exact fun c hc => by
        rcases List.mem_cons.mp hc with rfl | hc
        · exact ⟨C_Heap, PySem.W.mg_of X G A_Heap, ⟨pg_Heap, hd_Heap, po_Heap, sa_Heap⟩, n_Heap_size⟩
        cases hc
    apply And.intro
    · exact fun c hc => by
        rcases List.mem_cons.mp hc with rfl | hc
        · exact ⟨C_Heap, PySem.W.mg_of X G A_Heap, ⟨pg_Heap, hd_Heap, po_Heap, sa_Heap⟩, n_Heap_rows⟩
        cases hc
    trivial
  · refine ⟨⟨.str "abcdefghijklmnopqrstuvwxyz", _, PySem.W.mg_of X G g_LETTERS, ⟨_, rfl⟩, fun _ _ => by unfold RepV; rfl⟩, ?_⟩
    refine ⟨⟨.int 3, _, PySem.W.mg_of X G g_FIELDS, ⟨_, rfl⟩, fun _ _ => by unfold RepV; rfl⟩, ?_⟩
    refine ⟨⟨.int 400, _, PySem.W.mg_of X G g_NODES, ⟨_, rfl⟩, fun _ _ => by unfold RepV; rfl⟩, ?_⟩
    trivial
  · intro x hx
    rcases List.mem_cons.mp hx with rfl | hx
    · exact PySem.W.mg_none_of X G z_len
    rcases List.mem_cons.mp hx with rfl | hx
    · exact PySem.W.mg_none_of X G z_int
    rcases List.mem_cons.mp hx with rfl | hx
    · exact PySem.W.mg_none_of X G z_tuple
    rcases List.mem_cons.mp hx with rfl | hx
    · exact PySem.W.mg_none_of X G z_list
    rcases List.mem_cons.mp hx with rfl | hx
    · exact PySem.W.mg_none_of X G z_sorted
    rcases List.mem_cons.mp hx with rfl | hx
    · exact PySem.W.mg_none_of X G z_sum
    rcases List.mem_cons.mp hx with rfl | hx
    · exact PySem.W.mg_none_of X G z_max
    rcases List.mem_cons.mp hx with rfl | hx
    · exact PySem.W.mg_none_of X G z_min
    rcases List.mem_cons.mp hx with rfl | hx
    · exact PySem.W.mg_none_of X G z_abs
    rcases List.mem_cons.mp hx with rfl | hx
    · exact PySem.W.mg_none_of X G z_all
    rcases List.mem_cons.mp hx with rfl | hx
    · exact PySem.W.mg_none_of X G z_any
    rcases List.mem_cons.mp hx with rfl | hx
    · exact PySem.W.mg_none_of X G z_isinstance
    rcases List.mem_cons.mp hx with rfl | hx
    · exact PySem.W.mg_none_of X G z_range
    rcases List.mem_cons.mp hx with rfl | hx
    · exact PySem.W.mg_none_of X G z_enumerate
    rcases List.mem_cons.mp hx with rfl | hx
    · exact PySem.W.mg_none_of X G z_zip
    cases hx
  · intro P c hc
    rcases List.mem_cons.mp hc with rfl | hc
    · exact ⟨.ty "tuple", .type "tuple", ⟨.inl ⟨PySem.W.mg_none_of X G z_tuple, by decide +kernel, by decide⟩, .ty _, rfl, ⟨by rfl, by rfl, by rfl, by rfl, by rfl, by rfl, by rfl⟩, fun d hd D hD => by
        rcases List.mem_cons.mp hd with rfl | hd
        · rw [PySem.W.mg_of X G A_Heap] at hD
          cases hD
          exact k_tuple_Heap
        cases hd⟩⟩
    rcases List.mem_cons.mp hc with rfl | hc
    · exact ⟨.ref C_Heap, .ref C_Heap, ⟨.inr (PySem.W.mg_of X G A_Heap), .own _, rfl, ⟨k_Heap_NoneType, k_Heap_bool, k_Heap_int, k_Heap_str, k_Heap_tuple, k_Heap_list, k_Heap_dict⟩, fun d hd D hD => by
        rcases List.mem_cons.mp hd with rfl | hd
        · rw [PySem.W.mg_of X G A_Heap] at hD
          cases hD
          exact k_Heap_Heap
        cases hd⟩⟩
    cases hc
theorem all_mk {P : Program} {w : World} {fa : Addr} {f_fits_name f_check_names f_check_fields f_is_node f__law_draw f__law_word f__law_names f__law_number f__law_content f__law_rows f__law_fields f__law_same f__law_walk f_law f_Heap___init__ f_Heap_may_hold f_Heap_check f_Heap_content f_Heap_in_order f_Heap_reached f_Heap_copied C_Heap : Addr} {t_LETTERS t_FIELDS t_NODES : Tok} {od an : Option Addr} {sl : Array (Option Value)} {oc kV dc pm cd ct : Value} (X : K.In h) (G : h.Ns mainGlobals mg) (hfa : mg "law" = some (.ref fa)) (a_law : PySem.W.nsIn K mainGlobals "law" = some (some (.ref f_law))) (l_law : K.lookup f_law = some ⟨oc, od, .func (PySem.W.fnOf "law" "law" (defArgs s_law) (defBody s_law) (defScope s_law) .none kV dc pm an cd ct), sl⟩) (c_law : PySem.W.codeIn K cd "law" = true) (p_law : PySem.W.keepIn K (.ref f_law) = true)
    (a_fits_name : PySem.W.nsIn K mainGlobals "fits_name" = some (some (.ref f_fits_name)))
    (F_fits_name : FnK K d_fits_name f_fits_name 1 [])
    (p_fits_name : PySem.W.keepIn K (.ref f_fits_name) = true)
    (a_check_names : PySem.W.nsIn K mainGlobals "check_names" = some (some (.ref f_check_names)))
    (F_check_names : FnK K d_check_names f_check_names 2 [])
    (p_check_names : PySem.W.keepIn K (.ref f_check_names) = true)
    (a_check_fields : PySem.W.nsIn K mainGlobals "check_fields" = some (some (.ref f_check_fields)))
    (F_check_fields : FnK K d_check_fields f_check_fields 1 [])
    (p_check_fields : PySem.W.keepIn K (.ref f_check_fields) = true)
    (a_is_node : PySem.W.nsIn K mainGlobals "is_node" = some (some (.ref f_is_node)))
    (F_is_node : FnK K d_is_node f_is_node 1 [])
    (p_is_node : PySem.W.keepIn K (.ref f_is_node) = true)
    (a__law_draw : PySem.W.nsIn K mainGlobals "_law_draw" = some (some (.ref f__law_draw)))
    (F__law_draw : FnK K d__law_draw f__law_draw 2 [])
    (p__law_draw : PySem.W.keepIn K (.ref f__law_draw) = true)
    (a__law_word : PySem.W.nsIn K mainGlobals "_law_word" = some (some (.ref f__law_word)))
    (F__law_word : FnK K d__law_word f__law_word 2 [])
    (p__law_word : PySem.W.keepIn K (.ref f__law_word) = true)
    (a__law_names : PySem.W.nsIn K mainGlobals "_law_names" = some (some (.ref f__law_names)))
    (F__law_names : FnK K d__law_names f__law_names 2 [])
    (p__law_names : PySem.W.keepIn K (.ref f__law_names) = true)
    (a__law_number : PySem.W.nsIn K mainGlobals "_law_number" = some (some (.ref f__law_number)))
    (F__law_number : FnK K d__law_number f__law_number 1 [])
    (p__law_number : PySem.W.keepIn K (.ref f__law_number) = true)
    (a__law_content : PySem.W.nsIn K mainGlobals "_law_content" = some (some (.ref f__law_content)))
    (F__law_content : FnK K d__law_content f__law_content 2 [])
    (p__law_content : PySem.W.keepIn K (.ref f__law_content) = true)
    (a__law_rows : PySem.W.nsIn K mainGlobals "_law_rows" = some (some (.ref f__law_rows)))
    (F__law_rows : FnK K d__law_rows f__law_rows 3 [])
    (p__law_rows : PySem.W.keepIn K (.ref f__law_rows) = true)
    (a__law_fields : PySem.W.nsIn K mainGlobals "_law_fields" = some (some (.ref f__law_fields)))
    (F__law_fields : FnK K d__law_fields f__law_fields 1 [])
    (p__law_fields : PySem.W.keepIn K (.ref f__law_fields) = true)
    (a__law_same : PySem.W.nsIn K mainGlobals "_law_same" = some (some (.ref f__law_same)))
    (F__law_same : FnK K d__law_same f__law_same 3 [])
    (p__law_same : PySem.W.keepIn K (.ref f__law_same) = true)
    (a__law_walk : PySem.W.nsIn K mainGlobals "_law_walk" = some (some (.ref f__law_walk)))
    (F__law_walk : FnK K d__law_walk f__law_walk 2 [])
    (p__law_walk : PySem.W.keepIn K (.ref f__law_walk) = true)
    (A_Heap : PySem.W.nsIn K mainGlobals "Heap" = some (some (.ref C_Heap)))
    (pg_Heap : PySem.W.plainGet K C_Heap Str.empty = true)
    (hd_Heap : PySem.W.hasDictIn K C_Heap = true)
    (po_Heap : PySem.W.plainOver K C_Heap = true)
    (sa_Heap : PySem.W.findIn K (.ref C_Heap) "__setattr__" = some (some (.builtin "object.__setattr__")))
    (mk_Heap : PySem.W.makesIn K C_Heap = true)
    (kc_Heap : PySem.W.keepIn K (.ref C_Heap) = true)
    (a_Heap___init__ : PySem.W.findIn K (.ref C_Heap) "__init__" = some (some (.ref f_Heap___init__)))
    (i_Heap___init__ : PySem.W.isFn K (.ref f_Heap___init__) = true)
    (F_Heap___init__ : FnK K d_Heap___init__ f_Heap___init__ 3 [])
    (p_Heap___init__ : PySem.W.keepIn K (.ref f_Heap___init__) = true)
    (a_Heap_may_hold : PySem.W.findIn K (.ref C_Heap) "may_hold" = some (some (.ref f_Heap_may_hold)))
    (i_Heap_may_hold : PySem.W.isFn K (.ref f_Heap_may_hold) = true)
    (F_Heap_may_hold : FnK K d_Heap_may_hold f_Heap_may_hold 2 [])
    (p_Heap_may_hold : PySem.W.keepIn K (.ref f_Heap_may_hold) = true)
    (a_Heap_check : PySem.W.findIn K (.ref C_Heap) "check" = some (some (.ref f_Heap_check)))
    (i_Heap_check : PySem.W.isFn K (.ref f_Heap_check) = true)
    (F_Heap_check : FnK K d_Heap_check f_Heap_check 2 [])
    (p_Heap_check : PySem.W.keepIn K (.ref f_Heap_check) = true)
    (a_Heap_content : PySem.W.findIn K (.ref C_Heap) "content" = some (some (.ref f_Heap_content)))
    (i_Heap_content : PySem.W.isFn K (.ref f_Heap_content) = true)
    (F_Heap_content : FnK K d_Heap_content f_Heap_content 3 [])
    (p_Heap_content : PySem.W.keepIn K (.ref f_Heap_content) = true)
    (a_Heap_in_order : PySem.W.findIn K (.ref C_Heap) "in_order" = some (some (.ref f_Heap_in_order)))
    (i_Heap_in_order : PySem.W.isFn K (.ref f_Heap_in_order) = true)
    (F_Heap_in_order : FnK K d_Heap_in_order f_Heap_in_order 2 [])
    (p_Heap_in_order : PySem.W.keepIn K (.ref f_Heap_in_order) = true)
    (a_Heap_reached : PySem.W.findIn K (.ref C_Heap) "reached" = some (some (.ref f_Heap_reached)))
    (i_Heap_reached : PySem.W.isFn K (.ref f_Heap_reached) = true)
    (F_Heap_reached : FnK K d_Heap_reached f_Heap_reached 2 [])
    (p_Heap_reached : PySem.W.keepIn K (.ref f_Heap_reached) = true)
    (a_Heap_copied : PySem.W.findIn K (.ref C_Heap) "copied" = some (some (.ref f_Heap_copied)))
    (i_Heap_copied : PySem.W.isFn K (.ref f_Heap_copied) = true)
    (F_Heap_copied : FnK K d_Heap_copied f_Heap_copied 2 [])
    (p_Heap_copied : PySem.W.keepIn K (.ref f_Heap_copied) = true)
    (n_Heap_fields : PySem.W.findIn K (.ref C_Heap) "fields" = some none)
    (n_Heap_size : PySem.W.findIn K (.ref C_Heap) "size" = some none)
    (n_Heap_rows : PySem.W.findIn K (.ref C_Heap) "rows" = some none)
    (g_LETTERS : PySem.W.nsIn K mainGlobals "LETTERS" = some (some (.str "abcdefghijklmnopqrstuvwxyz" t_LETTERS)))
    (g_FIELDS : PySem.W.nsIn K mainGlobals "FIELDS" = some (some (.int 3 t_FIELDS)))
    (g_NODES : PySem.W.nsIn K mainGlobals "NODES" = some (some (.int 400 t_NODES)))
    (z_len : PySem.W.nsIn K mainGlobals "len" = some none)
    (z_int : PySem.W.nsIn K mainGlobals "int" = some none)
    (z_tuple : PySem.W.nsIn K mainGlobals "tuple" = some none)
    (z_list : PySem.W.nsIn K mainGlobals "list" = some none)
    (z_sorted : PySem.W.nsIn K mainGlobals "sorted" = some none)
    (z_sum : PySem.W.nsIn K mainGlobals "sum" = some none)
    (z_max : PySem.W.nsIn K mainGlobals "max" = some none)
    (z_min : PySem.W.nsIn K mainGlobals "min" = some none)
    (z_abs : PySem.W.nsIn K mainGlobals "abs" = some none)
    (z_all : PySem.W.nsIn K mainGlobals "all" = some none)
    (z_any : PySem.W.nsIn K mainGlobals "any" = some none)
    (z_isinstance : PySem.W.nsIn K mainGlobals "isinstance" = some none)
    (z_range : PySem.W.nsIn K mainGlobals "range" = some none)
    (z_enumerate : PySem.W.nsIn K mainGlobals "enumerate" = some none)
    (z_zip : PySem.W.nsIn K mainGlobals "zip" = some none)
    (k_Heap_NoneType : PySem.W.kitOne K (.type "NoneType") (.ref C_Heap) = some false)
    (k_Heap_bool : PySem.W.kitOne K (.type "bool") (.ref C_Heap) = some false)
    (k_Heap_int : PySem.W.kitOne K (.type "int") (.ref C_Heap) = some false)
    (k_Heap_str : PySem.W.kitOne K (.type "str") (.ref C_Heap) = some false)
    (k_Heap_tuple : PySem.W.kitOne K (.type "tuple") (.ref C_Heap) = some false)
    (k_Heap_list : PySem.W.kitOne K (.type "list") (.ref C_Heap) = some false)
    (k_Heap_dict : PySem.W.kitOne K (.type "dict") (.ref C_Heap) = some false)
    (k_Heap_Heap : PySem.W.kitOne K (.ref C_Heap) (.ref C_Heap) = some true)
    (ic_Heap : PySem.W.findIn K (.ref C_Heap) "__class__" = some (some (.builtin "object.__class__")))
    (im_Heap : PySem.W.mroIn K C_Heap (.type "object") = some true)
    (k_tuple_Heap : PySem.W.kitOne K (.ref C_Heap) (.type "tuple") = some false)
    (ic_s : PySem.W.specialIn K (.builtin "object.__class__") "__get__" = some (some (.builtin "getset_descriptor.__get__")))
    (ic_t : PySem.W.takesIn K (.builtin "object.__class__") = some true) :
    ∃ fd : FuncData, (∀ (s : Shared) (u : Value), BindsTo s fd ⟨[u], []⟩ [("_law_script", u)]) ∧ ∀ base : Heap, K.In base → base.Ns mainGlobals mg → FnOk P w K mg base (L2.CX P w) 18 fa fd ["_law_script"] (MP.spE 63 K) := by
  have e := hfa.symm.trans (PySem.W.mg_of X G a_law)
  cases e
  exact MP.law_ok (d := 8) (kf_of X G hfa (k_law l_law c_law) p_law a_fits_name F_fits_name p_fits_name a_check_names F_check_names p_check_names a_check_fields F_check_fields p_check_fields a_is_node F_is_node p_is_node a__law_draw F__law_draw p__law_draw a__law_word F__law_word p__law_word a__law_names F__law_names p__law_names a__law_number F__law_number p__law_number a__law_content F__law_content p__law_content a__law_rows F__law_rows p__law_rows a__law_fields F__law_fields p__law_fields a__law_same F__law_same p__law_same a__law_walk F__law_walk p__law_walk A_Heap pg_Heap hd_Heap po_Heap sa_Heap mk_Heap kc_Heap a_Heap___init__ i_Heap___init__ F_Heap___init__ p_Heap___init__ a_Heap_may_hold i_Heap_may_hold F_Heap_may_hold p_Heap_may_hold a_Heap_check i_Heap_check F_Heap_check p_Heap_check a_Heap_content i_Heap_content F_Heap_content p_Heap_content a_Heap_in_order i_Heap_in_order F_Heap_in_order p_Heap_in_order a_Heap_reached i_Heap_reached F_Heap_reached p_Heap_reached a_Heap_copied i_Heap_copied F_Heap_copied p_Heap_copied n_Heap_fields n_Heap_size n_Heap_rows g_LETTERS g_FIELDS g_NODES z_len z_int z_tuple z_list z_sorted z_sum z_max z_min z_abs z_all z_any z_isinstance z_range z_enumerate z_zip k_Heap_NoneType k_Heap_bool k_Heap_int k_Heap_str k_Heap_tuple k_Heap_list k_Heap_dict k_Heap_Heap ic_Heap im_Heap k_tuple_Heap ic_s ic_t) (D := d_law) (by kernel_rfl) (DefK.mk l_law c_law) sc_law rfl (fun s v => .of_eq rfl) LawPure
end
end LawM
open PySem PySem.W PyProof.Rows
set_option maxRecDepth 100000 in
set_option maxHeartbeats 0 in
theorem PySem.Challenge.cw_copiesowed_k10_whole_heaps_copied_holds : PySem.Challenge.rw_copiesowed_k10_whole_heaps_copied.Holds := by
  w_on; o_law; k_head; (case hw => w_witness2)
  k_fill
  refine MP.walk (l := PySem.Challenge.rw_copiesowed_k10_whole_heaps_copied) (n := 63) (k := 18) (x := "_law_script") rfl (by decide) rfl ⟨rfl, by decide, by decide⟩ (fun w h Y => PySem.W.kIn_of Y) ?F
  case F =>
    intro w mg fa h KX G hmg
    refine' LawM.all_mk KX G hmg ?a_law ?l_law ?c_law ?p_law ?a_fits_name (LawM.k_fits_name ?l_fits_name ?c_fits_name) ?p_fits_name ?a_check_names (LawM.k_check_names ?l_check_names ?c_check_names) ?p_check_names ?a_check_fields (LawM.k_check_fields ?l_check_fields ?c_check_fields) ?p_check_fields ?a_is_node (LawM.k_is_node ?l_is_node ?c_is_node) ?p_is_node ?a__law_draw (LawM.k__law_draw ?l__law_draw ?c__law_draw) ?p__law_draw ?a__law_word (LawM.k__law_word ?l__law_word ?c__law_word) ?p__law_word ?a__law_names (LawM.k__law_names ?l__law_names ?c__law_names) ?p__law_names ?a__law_number (LawM.k__law_number ?l__law_number ?c__law_number) ?p__law_number ?a__law_content (LawM.k__law_content ?l__law_content ?c__law_content) ?p__law_content ?a__law_rows (LawM.k__law_rows ?l__law_rows ?c__law_rows) ?p__law_rows ?a__law_fields (LawM.k__law_fields ?l__law_fields ?c__law_fields) ?p__law_fields ?a__law_same (LawM.k__law_same ?l__law_same ?c__law_same) ?p__law_same ?a__law_walk (LawM.k__law_walk ?l__law_walk ?c__law_walk) ?p__law_walk ?A_Heap ?pg_Heap ?hd_Heap ?po_Heap ?sa_Heap ?mk_Heap ?kc_Heap ?a_Heap___init__ ?i_Heap___init__ (LawM.k_Heap___init__ ?l_Heap___init__ ?c_Heap___init__) ?p_Heap___init__ ?a_Heap_may_hold ?i_Heap_may_hold (LawM.k_Heap_may_hold ?l_Heap_may_hold ?c_Heap_may_hold) ?p_Heap_may_hold ?a_Heap_check ?i_Heap_check (LawM.k_Heap_check ?l_Heap_check ?c_Heap_check) ?p_Heap_check ?a_Heap_content ?i_Heap_content (LawM.k_Heap_content ?l_Heap_content ?c_Heap_content) ?p_Heap_content ?a_Heap_in_order ?i_Heap_in_order (LawM.k_Heap_in_order ?l_Heap_in_order ?c_Heap_in_order) ?p_Heap_in_order ?a_Heap_reached ?i_Heap_reached (LawM.k_Heap_reached ?l_Heap_reached ?c_Heap_reached) ?p_Heap_reached ?a_Heap_copied ?i_Heap_copied (LawM.k_Heap_copied ?l_Heap_copied ?c_Heap_copied) ?p_Heap_copied ?n_Heap_fields ?n_Heap_size ?n_Heap_rows ?g_LETTERS ?g_FIELDS ?g_NODES ?z_len ?z_int ?z_tuple ?z_list ?z_sorted ?z_sum ?z_max ?z_min ?z_abs ?z_all ?z_any ?z_isinstance ?z_range ?z_enumerate ?z_zip ?k_Heap_NoneType ?k_Heap_bool ?k_Heap_int ?k_Heap_str ?k_Heap_tuple ?k_Heap_list ?k_Heap_dict ?k_Heap_Heap ?ic_Heap ?im_Heap ?k_tuple_Heap ?ic_s ?ic_t
    (case a_law => k_is)
    (case l_law => k_is)
    (case c_law => k_is)
    (case p_law => k_is)
    (case a_fits_name => k_is)
    (case l_fits_name => k_is)
    (case c_fits_name => k_is)
    (case p_fits_name => k_is)
    (case a_check_names => k_is)
    (case l_check_names => k_is)
    (case c_check_names => k_is)
    (case p_check_names => k_is)
    (case a_check_fields => k_is)
    (case l_check_fields => k_is)
    (case c_check_fields => k_is)
    (case p_check_fields => k_is)
    (case a_is_node => k_is)
    (case l_is_node => k_is)
    (case c_is_node => k_is)
    (case p_is_node => k_is)
    (case a__law_draw => k_is)
    (case l__law_draw => k_is)
    (case c__law_draw => k_is)
    (case p__law_draw => k_is)
    (case a__law_word => k_is)
    (case l__law_word => k_is)
    (case c__law_word => k_is)
    (case p__law_word => k_is)
    (case a__law_names => k_is)
    (case l__law_names => k_is)
    (case c__law_names => k_is)
    (case p__law_names => k_is)
    (case a__law_number => k_is)
    (case l__law_number => k_is)
    (case c__law_number => k_is)
    (case p__law_number => k_is)
    (case a__law_content => k_is)
    (case l__law_content => k_is)
    (case c__law_content => k_is)
    (case p__law_content => k_is)
    (case a__law_rows => k_is)
    (case l__law_rows => k_is)
    (case c__law_rows => k_is)
    (case p__law_rows => k_is)
    (case a__law_fields => k_is)
    (case l__law_fields => k_is)
    (case c__law_fields => k_is)
    (case p__law_fields => k_is)
    (case a__law_same => k_is)
    (case l__law_same => k_is)
    (case c__law_same => k_is)
    (case p__law_same => k_is)
    (case a__law_walk => k_is)
    (case l__law_walk => k_is)
    (case c__law_walk => k_is)
    (case p__law_walk => k_is)
    (case A_Heap => k_is)
    (case pg_Heap => k_is)
    (case hd_Heap => k_is)
    (case po_Heap => k_is)
    (case sa_Heap => k_is)
    (case mk_Heap => k_is)
    (case kc_Heap => k_is)
    (case a_Heap___init__ => k_is)
    (case i_Heap___init__ => k_is)
    (case l_Heap___init__ => k_is)
    (case c_Heap___init__ => k_is)
    (case p_Heap___init__ => k_is)
    (case a_Heap_may_hold => k_is)
    (case i_Heap_may_hold => k_is)
    (case l_Heap_may_hold => k_is)
    (case c_Heap_may_hold => k_is)
    (case p_Heap_may_hold => k_is)
    (case a_Heap_check => k_is)
    (case i_Heap_check => k_is)
    (case l_Heap_check => k_is)
    (case c_Heap_check => k_is)
    (case p_Heap_check => k_is)
    (case a_Heap_content => k_is)
    (case i_Heap_content => k_is)
    (case l_Heap_content => k_is)
    (case c_Heap_content => k_is)
    (case p_Heap_content => k_is)
    (case a_Heap_in_order => k_is)
    (case i_Heap_in_order => k_is)
    (case l_Heap_in_order => k_is)
    (case c_Heap_in_order => k_is)
    (case p_Heap_in_order => k_is)
    (case a_Heap_reached => k_is)
    (case i_Heap_reached => k_is)
    (case l_Heap_reached => k_is)
    (case c_Heap_reached => k_is)
    (case p_Heap_reached => k_is)
    (case a_Heap_copied => k_is)
    (case i_Heap_copied => k_is)
    (case l_Heap_copied => k_is)
    (case c_Heap_copied => k_is)
    (case p_Heap_copied => k_is)
    (case n_Heap_fields => k_is)
    (case n_Heap_size => k_is)
    (case n_Heap_rows => k_is)
    (case g_LETTERS => k_is)
    (case g_FIELDS => k_is)
    (case g_NODES => k_is)
    (case z_len => k_is)
    (case z_int => k_is)
    (case z_tuple => k_is)
    (case z_list => k_is)
    (case z_sorted => k_is)
    (case z_sum => k_is)
    (case z_max => k_is)
    (case z_min => k_is)
    (case z_abs => k_is)
    (case z_all => k_is)
    (case z_any => k_is)
    (case z_isinstance => k_is)
    (case z_range => k_is)
    (case z_enumerate => k_is)
    (case z_zip => k_is)
    (case k_Heap_NoneType => kit_is)
    (case k_Heap_bool => kit_is)
    (case k_Heap_int => kit_is)
    (case k_Heap_str => kit_is)
    (case k_Heap_tuple => kit_is)
    (case k_Heap_list => kit_is)
    (case k_Heap_dict => kit_is)
    (case k_Heap_Heap => kit_is)
    (case ic_Heap => k_is)
    (case im_Heap => k_is)
    (case k_tuple_Heap => kit_is)
    (case ic_s => k_is)
    (case ic_t => k_is)
