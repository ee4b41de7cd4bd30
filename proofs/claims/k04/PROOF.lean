import PyProof.Rows.All
import Wide.All
import OpenK.AllK
import Wide.FinOn
import PySem.Challenge.RW_anyleaver_k04_panels_gone_on
import HandS.ForMost
import HandS.ForExc
import PyProof.ReprRoads
import PyProof.Rows.EqDataRows
import KE.DataCmp
import KE.DataEq
import KE.SortData
import KE.KeyNested
import KE.KDictKeyed
import KE.KDictWalk
import HandS.TupAny
import HandS.TupMul
import HandS.RaiseMore
import PyProof.P3In
import HandS.Style
import HandS.TupLen
import HandS.IsInst
import HandS.Conv
import HandS.More
import HandS.Flow
import HandS.Star
import HandS.Walk
import HandS.Defaults
import HandS.HeadHook1
import HandS.HeadHook2
import HandS.HeadEnd
import HandS.HeadHook4
import HandS.Head2
import KE.KIntText
import HandS.Codes
import HandS.Words
set_option autoImplicit false
set_option Elab.async false
set_option linter.all false
section
set_option autoImplicit false
set_option Elab.async false
/-! Q: a small language of values (D), cells (C) and trees (E, S) that says what the program and the laws do; its run. -/
namespace Q
open PySem

/-! ### values and cells -/
inductive D where
  | non | bl (b : Bool) | int (i : Int) | str (x : Str) | tup (xs : List D) | ref (i : Nat)
  deriving Inhabited

mutual
def D.eqb : D → D → Bool
  | .non, .non => true
  | .bl a, .bl b => a == b
  | .int a, .int b => decide (a = b)
  | .str a, .str b => decide (a = b)
  | .tup a, .tup b => D.eqbs a b
  | .ref a, .ref b => decide (a = b)
  | _, _ => false
def D.eqbs : List D → List D → Bool
  | [], [] => true
  | a :: as, b :: bs => D.eqb a b && D.eqbs as bs
  | _, _ => false
end
mutual
theorem D.eqb_self : ∀ a : D, D.eqb a a = true
  | .non => by simp [D.eqb]
  | .bl _ => by simp [D.eqb]
  | .int _ => by simp [D.eqb]
  | .str _ => by simp [D.eqb]
  | .tup a => by simp [D.eqb, D.eqbs_self a]
  | .ref _ => by simp [D.eqb]
theorem D.eqbs_self : ∀ a : List D, D.eqbs a a = true
  | [] => by simp [D.eqbs]
  | a :: as => by simp [D.eqbs, D.eqb_self a, D.eqbs_self as]
end
mutual
theorem D.of_eqb : ∀ a b : D, D.eqb a b = true → a = b
  | .non, b, h => by cases b <;> simp_all [D.eqb]
  | .bl _, b, h => by cases b <;> simp_all [D.eqb]
  | .int _, b, h => by cases b <;> simp_all [D.eqb]
  | .str _, b, h => by cases b <;> simp_all [D.eqb]
  | .tup a, b, h => by
    cases b with
    | tup b => rw [D.of_eqbs a b (by simpa [D.eqb] using h)]
    | _ => simp [D.eqb] at h
  | .ref _, b, h => by cases b <;> simp_all [D.eqb]
theorem D.of_eqbs : ∀ a b : List D, D.eqbs a b = true → a = b
  | [], b, h => by cases b <;> simp_all [D.eqbs]
  | a :: as, b, h => by
    cases b with
    | nil => simp [D.eqbs] at h
    | cons b bs =>
      simp only [D.eqbs, Bool.and_eq_true] at h
      rw [D.of_eqb a b h.1, D.of_eqbs as bs h.2]
end
instance : DecidableEq D := fun a b => if h : D.eqb a b = true then .isTrue (D.of_eqb a b h) else .isFalse fun e => h (e ▸ D.eqb_self a)

inductive C where
  | lst (xs : List D) | ro (xs : List D) | dct (kvs : List (D × D)) | set (ks : List D) | obj (c : Nat) (fs : List (Str × D))
  deriving DecidableEq, Inhabited

abbrev Hh := List C
abbrev Sl := List (Option D)

inductive Res (α : Type) where
  | ok (a : α) (h : Hh) | exc (c : Nat) (fs : List (Str × D)) (σ : Sl) (h : Hh) | bad

def Res.bind {α β : Type} : Res α → (α → Hh → Res β) → Res β
  | .ok a h, f => f a h
  | .exc c fs σ h, _ => .exc c fs σ h
  | .bad, _ => .bad
/-- .. where an error is not borne -/
def Res.bindN {α β : Type} : Res α → (α → Hh → Res β) → Res β
  | .ok a h, f => f a h
  | .exc _ _ _ _, _ => .bad
  | .bad, _ => .bad
/-- the slots that an error leaves behind -/
def Res.atS {α : Type} (σ : Sl) : Res α → Res α
  | .exc c fs _ h => .exc c fs σ h
  | r => r
def lift {α : Type} (o : Option α) (h : Hh) : Res α := match o with | some a => .ok a h | none => .bad
def liftH {α : Type} (o : Option (α × Hh)) : Res α := match o with | some (a, h) => .ok a h | none => .bad

/-! ### values as the library's data and keys -/
def mapO {α β : Type} (f : α → Option β) : List α → Option (List β)
  | [] => some []
  | x :: xs => match f x with
    | some y => match mapO f xs with
      | some ys => some (y :: ys)
      | none => none
    | none => none
def mapP {α β : Type} (f : α → Option β) : List (α × α) → Option (List (β × β))
  | [] => some []
  | (x, y) :: r => match f x, f y, mapP f r with
    | some a, some b, some l => some ((a, b) :: l)
    | _, _, _ => none
def toPy (h : Hh) : Nat → D → Option PyData
  | _, .non => some .none
  | _, .bl b => some (.bool b)
  | _, .int i => some (.int i)
  | _, .str x => some (.str x)
  | n + 1, .tup xs => (mapO (toPy h n) xs).map .tuple
  | n + 1, .ref i => match h[i]? with
    | some (.lst xs) => (mapO (toPy h n) xs).map .list
    | some (.ro xs) => (mapO (toPy h n) xs).map .list
    | some (.dct kvs) => (mapP (toPy h n) kvs).map .dict
    | _ => none
  | 0, .tup _ => none
  | 0, .ref _ => none
/-- how deep data is looked at -/
def deep : Nat := 60
mutual
def D.kd : D → Option NestedKey
  | .non => some .none
  | .int i => some (.num i)
  | .str x => some (.text x)
  | .tup xs => match D.kds xs with
    | some ks => some (.tup ks)
    | none => none
  | .bl _ => none
  | .ref _ => none
def D.kds : List D → Option (List NestedKey)
  | [] => some []
  | x :: xs => match D.kd x, D.kds xs with
    | some k, some ks => some (k :: ks)
    | _, _ => none
end
def isFlat : D → Bool
  | .int _ => true
  | .str _ => true
  | _ => false
def isTupK : D → Bool
  | .tup xs => match D.kd (.tup xs) with
    | some k => decide (k.depth ≤ 8)
    | none => false
  | _ => false
def kindOk (ks : List D) (k : D) : Bool := (isFlat k && ks.all isFlat) || (isTupK k && ks.all isTupK)
def lookD (k : D) : List (D × D) → Option D
  | [] => none
  | (a, v) :: r => if a = k then some v else lookD k r
def putD (k v : D) : List (D × D) → List (D × D)
  | [] => [(k, v)]
  | (a, w) :: r => if a = k then (a, v) :: r else (a, w) :: putD k v r
def putF (f : Str) (v : D) : List (Str × D) → List (Str × D)
  | [] => [(f, v)]
  | (g, x) :: r => if g = f then (g, v) :: r else (g, x) :: putF f v r

/-! ### operators on values -/
inductive Op where
  | add | sub | mul | mod | fdiv | pow | bor | band | shl | shr
  deriving DecidableEq
inductive Cp where
  | eq | ne | lt | le | gt | ge | inn | notin | isN | isntN
  deriving DecidableEq

def newc (c : C) (h : Hh) : D × Hh := (.ref h.length, h ++ [c])
def lstOf (h : Hh) : D → Option (List D)
  | .ref i => match h[i]? with
    | some (.lst xs) => some xs
    | some (.ro xs) => some xs
    | _ => none
  | _ => none
def small (i : Int) : Bool := decide (-(2 ^ 64) < i ∧ i < 2 ^ 64)
def maxLen : Nat := 16000000
def opI : Op → Int → Int → Option Int
  | .add, i, j => some (i + j)
  | .sub, i, j => some (i - j)
  | .mul, i, j => if small i || small j then some (i * j) else none
  | .mod, i, j => if j = 0 then none else some (i.fmod j)
  | .fdiv, i, j => if j = 0 then none else if j.natAbs < 1073741824 then some (i.fdiv j) else none
  | .pow, i, j => if 0 ≤ j ∧ j ≤ 1000 ∧ i.natAbs < 2 ^ 64 then some (i ^ j.toNat) else none
  | .bor, i, j => some (Builtin.bitOr i j)
  | .band, i, j => some (Builtin.bitAnd i j)
  | .shl, i, j => if 0 ≤ j ∧ j ≤ 1000 ∧ i.natAbs < 2 ^ 64 then some (i * 2 ^ j.toNat) else none
  | .shr, i, j => if 0 ≤ j then some (i / 2 ^ j.toNat) else none
def repL {α : Type} : Nat → List α → List α
  | 0, _ => []
  | n + 1, xs => xs ++ repL n xs
def opD (o : Op) (d e : D) (h : Hh) : Option (D × Hh) :=
  match d, e with
  | .int i, .int j => (opI o i j).map fun k => (.int k, h)
  | .str x, .str y => if o = .add ∧ x.length + y.length ≤ maxLen then some (.str (x ++ y), h) else none
  | .tup xs, .tup ys => if o = .add ∧ xs.length + ys.length ≤ maxLen then some (.tup (xs ++ ys), h) else none
  | .tup xs, .int n => if o = .mul ∧ 2 ≤ n ∧ n ≤ 1000 ∧ xs ≠ [] ∧ xs.length ≤ 1000 then some (.tup (repL n.toNat xs), h) else none
  | .ref i, .int n => match h[i]? with
    | some (.lst xs) => if o = .mul ∧ -1000000 < n ∧ n < 1000000 ∧ xs.length * n.toNat ≤ maxLen then some (newc (.lst (repL n.toNat xs)) h) else none
    | _ => none
  | .ref i, .ref j => match h[i]?, h[j]? with
    | some (.lst xs), some (.lst ys) => if o = .add ∧ xs.length + ys.length ≤ maxLen then some (newc (.lst (xs ++ ys)) h) else none
    | _, _ => none
  | _, _ => none
def truth (h : Hh) : D → Option Bool
  | .non => some false
  | .bl b => some b
  | .int i => some (i != 0)
  | .str x => if x.length ≤ maxLen then some ((x.length : Int) != 0) else none
  | .tup xs => some (!xs.isEmpty)
  | .ref i => match h[i]? with
    | some (.lst xs) => some (!xs.isEmpty)
    | some (.ro xs) => some (!xs.isEmpty)
    | some (.dct kvs) => if kvs.all (fun p => isFlat p.1) then some (!kvs.isEmpty) else none
    | _ => none
/-- no dict within, not too deep -/
def plainD (p : PyData) : Bool := p.plain && decide (p.depth ≤ 64)
def eqD (h : Hh) (d e : D) : Option Bool :=
  match toPy h deep d, toPy h deep e with
  | some p, some q => if plainD p && plainD q then some (PyData.eqv p q) else none
  | _, _ => none
def isNone : PyData → Bool
  | .none => true
  | _ => false
/-- an order's answer, where the two can be compared -/
def ordD (f : PyData → PyData → Bool) (h : Hh) (d e : D) : Option Bool :=
  match toPy h deep d, toPy h deep e with
  | some p, some q => if plainD p && plainD q && W.alike p q && !isNone p then some (f p q) else none
  | _, _ => none
def seqIn (h : Hh) (d : D) (xs : List D) : Option Bool :=
  match toPy h deep d, mapO (toPy h deep) xs with
  | some p, some ps => if plainD p && plainD (.list ps) then some (ps.any fun z => PyData.eqv z p) else none
  | _, _ => none
def inD (h : Hh) (d : D) : D → Option Bool
  | .tup xs => seqIn h d xs
  | .str y => match d with
    | .str x => some (!(Builtin.Str.occurrences y x 0 y.length 1).isEmpty)
    | _ => none
  | .ref i => match h[i]? with
    | some (.lst xs) => seqIn h d xs
    | some (.ro xs) => seqIn h d xs
    | some (.dct kvs) => if kindOk (kvs.map (·.1)) d then some (lookD d kvs).isSome else none
    | some (.set ks) => if kindOk ks d then some (decide (d ∈ ks)) else none
    | _ => none
  | _ => none
def cmpD (o : Cp) (h : Hh) (d e : D) : Option Bool :=
  match o with
  | .eq => eqD h d e
  | .ne => (eqD h d e).map (!·)
  | .lt => ordD (fun p q => W.dataLt p q) h d e
  | .gt => ordD (fun p q => W.dataLt q p) h d e
  | .le => ordD (fun p q => !W.dataLt q p) h d e
  | .ge => ordD (fun p q => !W.dataLt p q) h d e
  | .inn => inD h d e
  | .notin => (inD h d e).map (!·)
  | .isN => match e with
    | .non => some (decide (d = .non))
    | _ => none
  | .isntN => match e with
    | .non => some (!decide (d = .non))
    | _ => none

/-! ### parts of sequences -/
def ixL {α : Type} (xs : List α) (i : Int) : Option α := L2.atI xs i
def cutL {α : Type} (xs : List α) (lo hi : Option Int) : List α :=
  (xs.drop (HT.sIx xs.length 0 lo)).take (HT.sIx xs.length xs.length hi - HT.sIx xs.length 0 lo)
def signAt (x : Str) (i : Nat) : Option D := (x.cps[i]?).map fun c => .str ⟨#[c]⟩
def subD (h : Hh) (d i : D) : Option D :=
  match d, i with
  | .tup xs, .int k => ixL xs k
  | .str x, .int k => if x.length ≤ maxLen then (ixL x.cps.toList k).map fun c => .str ⟨#[c]⟩ else none
  | .ref j, k => match h[j]? with
    | some (.lst xs) => match k with
      | .int k => ixL xs k
      | _ => none
    | some (.ro xs) => match k with
      | .int k => ixL xs k
      | _ => none
    | some (.dct kvs) => if kindOk (kvs.map (·.1)) k then lookD k kvs else none
    | _ => none
  | _, _ => none
def slcD (h : Hh) (d : D) (lo hi : Option Int) : Option (D × Hh) :=
  match d with
  | .tup xs => some (.tup (cutL xs lo hi), h)
  | .str x => if x.length ≤ maxLen then some (.str (L2.cutS x lo hi), h) else none
  | .ref i => (lstOf h (.ref i)).map fun xs => newc (.lst (cutL xs lo hi)) h
  | _ => none
def revD (h : Hh) (d : D) : Option (D × Hh) :=
  match d with
  | .ref i => (lstOf h (.ref i)).map fun xs => newc (.lst xs.reverse) h
  | _ => none
def setD (h : Hh) (d i v : D) : Option Hh :=
  match d with
  | .ref j => match h[j]? with
    | some (.lst xs) => match i with
      | .int k => match L2.ixN xs.length k with
        | some n => some (h.set j (.lst (xs.set n v)))
        | none => none
      | _ => none
    | some (.dct kvs) => if kindOk (kvs.map (·.1)) i && decide (kvs.length < maxLen) then some (h.set j (.dct (putD i v kvs))) else none
    | _ => none
  | _ => none

/-! ### built-in functions and methods -/
inductive Bt where
  | len | tuple | list | all | any | int | str | repr | sum | max2 | min2 | max1 | min1 | sorted | set | listR1 | listR2 | tupR1 | tupR2 | dict
  deriving DecidableEq
inductive Bm where
  | append | pop | extend | join | index | count | get1 | get2 | setdefault | update | split | lower | bitlen | popAt
  deriving DecidableEq
inductive Ty where
  | int | bool | str | tuple | list | dict | cls (c : Nat)
  deriving DecidableEq

def isiD (h : Hh) (d : D) : Ty → Option Bool
  | .int => match d with
    | .int _ => some true
    | .bl _ => some true
    | _ => some false
  | .bool => match d with
    | .bl _ => some true
    | _ => some false
  | .str => match d with
    | .str _ => some true
    | _ => some false
  | .tuple => match d with
    | .tup _ => some true
    | _ => some false
  | .list => match d with
    | .ref i => match h[i]? with
      | some (.lst _) => some true
      | some (.ro _) => some true
      | some _ => some false
      | none => none
    | _ => some false
  | .dict => match d with
    | .ref i => match h[i]? with
      | some (.dct _) => some true
      | some _ => some false
      | none => none
    | _ => some false
  | .cls c => match d with
    | .ref i => match h[i]? with
      | some (.obj c' _) => some (decide (c' = c))
      | some _ => some false
      | none => none
    | _ => some false
def boolsOf : List D → Option (List Bool)
  | [] => some []
  | .bl b :: r => (boolsOf r).map (b :: ·)
  | _ :: _ => none
def intsOf : List D → Option (List Int)
  | [] => some []
  | .int i :: r => (intsOf r).map (i :: ·)
  | _ :: _ => none
def strsOf : List D → Option (List Str)
  | [] => some []
  | .str x :: r => (strsOf r).map (x :: ·)
  | _ :: _ => none
/-- the items of a value that is walked at once (not a set) -/
def itemsOf (h : Hh) : D → Option (List D)
  | .tup xs => some xs
  | d => lstOf h d
def reprD (h : Hh) (d : D) : Option Str :=
  match toPy h deep d with
  | some p => if p.showable && decide (p.depth ≤ 64) && decide (p.shown.length ≤ maxLen) then some p.shown else none
  | none => none
def maxI : Int → List Int → Int
  | a, [] => a
  | a, b :: r => maxI (if b > a then b else a) r
def minI : Int → List Int → Int
  | a, [] => a
  | a, b :: r => minI (if b < a then b else a) r
def rangeL (lo hi : Int) : List D := (List.range (hi - lo).toNat).map fun k => .int (lo + (k : Nat))
def okRange (lo hi : Int) : Bool := decide (-(2 ^ 62) ≤ lo ∧ lo < 2 ^ 62 ∧ -(2 ^ 62) ≤ hi ∧ hi < 2 ^ 62 ∧ hi - lo ≤ 1000000)
def btD (b : Bt) (ds : List D) (h : Hh) : Option (D × Hh) :=
  match b, ds with
  | .len, [.tup xs] => some (.int xs.length, h)
  | .len, [.str x] => if x.length ≤ maxLen then some (.int x.length, h) else none
  | .len, [.ref i] => match h[i]? with
    | some (.lst xs) => some (.int xs.length, h)
    | some (.ro xs) => some (.int xs.length, h)
    | some (.dct kvs) => some (.int kvs.length, h)
    | some (.set ks) => some (.int ks.length, h)
    | _ => none
  | .tuple, [.tup xs] => some (.tup xs, h)
  | .tuple, [d] => (lstOf h d).map fun xs => (.tup xs, h)
  | .list, [.tup xs] => some (newc (.lst xs) h)
  | .list, [.ref i] => (lstOf h (.ref i)).map fun xs => newc (.lst xs) h
  | .all, [d] => (lstOf h d).bind fun xs => (boolsOf xs).map fun bs => (.bl (bs.all id), h)
  | .any, [d] => (lstOf h d).bind fun xs => (boolsOf xs).map fun bs => (.bl (bs.any id), h)
  | .int, [.int i] => some (.int i, h)
  | .int, [.bl b] => some (.int (if b then 1 else 0), h)
  | .str, [.str x] => some (.str x, h)
  | .str, [.int i] => if i.natAbs.log2 < 1920 then some (.str (toString i), h) else none
  | .repr, [d] => (reprD h d).map fun x => (.str x, h)
  | .sum, [d] => (lstOf h d).bind fun xs => (intsOf xs).map fun is => (.int is.sum, h)
  | .max2, [.int i, .int j] => some (.int (if j > i then j else i), h)
  | .min2, [.int i, .int j] => some (.int (if j < i then j else i), h)
  | .max1, [d] => (lstOf h d).bind fun xs => (intsOf xs).bind fun is => match is with
    | [] => none
    | a :: r => some (.int (maxI a r), h)
  | .min1, [d] => (lstOf h d).bind fun xs => (intsOf xs).bind fun is => match is with
    | [] => none
    | a :: r => some (.int (minI a r), h)
  | .listR1, [.int n] => if okRange 0 n then some (newc (.lst (rangeL 0 n)) h) else none
  | .listR2, [.int a, .int b] => if okRange a b then some (newc (.lst (rangeL a b)) h) else none
  | .tupR1, [.int n] => if okRange 0 n then some (.tup (rangeL 0 n), h) else none
  | .tupR2, [.int a, .int b] => if okRange a b then some (.tup (rangeL a b), h) else none
  | _, _ => none
def joinD (sep : Str) (xs : List D) : Option Str :=
  match strsOf xs with
  | some ys => if (ys.map (·.length)).sum + ys.length * sep.length ≤ maxLen then some (Txt.join sep ys) else none
  | none => none

/-! ### trees -/
mutual
inductive E where
  | slot (i : Nat) | lit (d : D)
  | op (o : Op) (a b : E) | cmp (o : Cp) (a b : E) | chain (o p : Cp) (a b c : E)
  | nt (a : E) | neg (a : E) | an (a b : E) | orr (a b : E) | ite (c a b : E)
  | tup (xs : Es) | lst (xs : Es) | dct (kvs : Es)
  | sub (a i : E) | slc (a : E) (lo hi : Oe) | rev (a : E) | fld (a : E) (f : Str)
  | call (f : Nat) (xs ks : Es) (perm : List Nat) | mk (c : Nat) (xs ks : Es) (perm : List Nat) | meth (a : E) (m : Str) (xs ks : Es) (perm : List Nat)
  | blt (b : Bt) (xs : Es) | bm (m : Bm) (a : E) (xs : Es) | isi (a : E) (ts : List Ty)
  | lc (elt : E) (t : Tg) (s : It) (ifs : Es) (own : List Nat)
inductive Es where
  | nil | cons (e : E) (r : Es) | star (e : E) (r : Es)
inductive Oe where
  | none | some (e : E)
inductive Tg where
  | name (i : Nat) | tup (ts : Tgs) | sub (a i : E) | fld (a : E) (f : Str)
inductive Tgs where
  | nil | cons (t : Tg) (r : Tgs)
inductive It where
  | e (a : E) | range1 (a : E) | range2 (a b : E) | enum (a : E) | enumS (a k : E) | zip (a b : E) | vals (a : E) | items (a : E)
end
mutual
inductive S where
  | expr (e : E) | set (t : Tg) (e : E) | aug (i : Nat) (o : Op) (e : E) | augS (a i : E) (o : Op) (e : E)
  | ret (e : E) | iff (c : E) (a b : Ss) | for_ (t : Tg) (s : It) (b : Ss) | while_ (c : E) (b : Ss)
  | raise_ (c : Nat) (xs : Es) | pass
inductive Ss where
  | nil | cons (s : S) (r : Ss)
end

/-! ### the tables of the text -/
structure Fn where
  nps : Nat
  nsl : Nat
  body : Ss
structure Cl where
  name : Str
  flds : List Str
  init : Nat
  meths : List (Str × Nat)
structure Pg where
  fns : List Fn
  cls : List Cl
  fuel : Nat
def Pg.meth (P : Pg) (c : Nat) (m : Str) : Option Nat := match P.cls[c]? with
  | some k => k.meths.lookup m
  | none => none
abbrev Call := Nat → List D → Hh → Res D

/-! ### what is walked -/
structure Src where
  n : Nat
  at_ : Hh → Nat → Option D
  fin : Hh → Bool
def srcImm (xs : List D) : Src := ⟨xs.length, fun _ k => xs[k]?, fun _ => true⟩
def srcCell (i n : Nat) : Src := ⟨n, fun h k => match lstOf h (.ref i) with
    | some xs => if xs.length = n then xs[k]? else none
    | none => none, fun h => match lstOf h (.ref i) with
    | some xs => decide (xs.length = n)
    | none => false⟩
def srcDict (i : Nat) (kvs : List (D × D)) (f : D × D → D) : Src := ⟨kvs.length, fun h k => if h[i]? = some (.dct kvs) then (kvs[k]?).map f else none, fun h => decide (h[i]? = some (.dct kvs))⟩
def srcRange (lo hi : Int) : Src := ⟨(hi - lo).toNat, fun _ k => some (.int (lo + (k : Nat))), fun _ => true⟩
def srcEnum (s : Src) (k0 : Int) : Src := ⟨s.n, fun h k => (s.at_ h k).map fun d => .tup [.int (k0 + (k : Nat)), d], s.fin⟩
def srcZip (s t : Src) : Src := ⟨min s.n t.n, fun h k => match s.at_ h k, t.at_ h k with
    | some d, some e => some (.tup [d, e])
    | _, _ => none, fun h => s.fin h && t.fin h⟩
def srcOf (h : Hh) : D → Option Src
  | .tup xs => some (srcImm xs)
  | .str x => some (srcImm (x.cps.toList.map fun c => .str ⟨#[c]⟩))
  | .ref i => match h[i]? with
    | some (.lst xs) => some (srcCell i xs.length)
    | some (.ro xs) => some (srcCell i xs.length)
    | _ => none
  | _ => none
inductive Fl where
  | nx | rt (d : D)
/-- a for's turns -/
def goFor (s : Src) (f : D → Sl → Hh → Res (Fl × Sl)) : Nat → Nat → Sl → Hh → Res (Fl × Sl)
  | 0, _, σ, h => if s.fin h then .ok (.nx, σ) h else .bad
  | r + 1, k, σ, h => match s.at_ h k with
    | none => .bad
    | some d => (f d σ h).bind fun q h' => match q.1 with
      | .nx => goFor s f r (k + 1) q.2 h'
      | .rt e => .ok (.rt e, q.2) h'
/-- a comprehension's turns -/
def goLc {α : Type} (s : Src) (f : D → Hh → Res (Option α)) : Nat → Nat → List α → Hh → Res (List α)
  | 0, _, acc, h => if s.fin h && decide (acc.length < maxLen) then .ok acc h else .bad
  | r + 1, k, acc, h => match s.at_ h k with
    | none => .bad
    | some d => (f d h).bindN fun o h' => match o with
      | some a => goLc s f r (k + 1) (acc ++ [a]) h'
      | none => goLc s f r (k + 1) acc h'
def goWhile (c : Sl → Hh → Res Bool) (f : Sl → Hh → Res (Fl × Sl)) : Nat → Sl → Hh → Res (Fl × Sl)
  | 0, _, _ => .bad
  | n + 1, σ, h => (c σ h).bind fun b h1 => match b with
    | false => .ok (.nx, σ) h1
    | true => (f σ h1).bind fun q h2 => match q.1 with
      | .nx => goWhile c f n q.2 h2
      | .rt e => .ok (.rt e, q.2) h2
def wipeS (σ : Sl) : List Nat → Sl
  | [] => σ
  | v :: vs => (wipeS σ vs).set v none
def slotD (σ : Sl) (i : Nat) : Option D := match σ[i]? with
  | some o => o
  | none => none
/-- the values in the parameters' order -/
def permD (perm : List Nat) (ds : List D) : Option (List D) := mapO (fun j => ds[j]?) perm
def objM (P : Pg) (h : Hh) (d : D) (m : Str) : Option Nat := match d with
  | .ref i => match h[i]? with
    | some (.obj c fs) => if (fs.lookup m).isNone then P.meth c m else none
    | _ => none
  | _ => none
def isObj (h : Hh) : D → Bool
  | .ref i => match h[i]? with
    | some (.obj _ _) => true
    | _ => false
  | _ => false
def okFld (P : Pg) (c : Nat) (f : Str) : Bool := match P.cls[c]? with
  | some k => k.flds.contains f
  | none => false
/-- a comparison; == and != of an object by its own __eq__ -/
def cmpO (P : Pg) (call : Call) (o : Cp) (d e : D) (h : Hh) : Res D :=
  match o, isObj h d with
  | .eq, true => match objM P h d "__eq__" with
    | some f => (call f [d, e] h).bindN fun r h' => match r with
      | .bl k => .ok (.bl k) h'
      | _ => .bad
    | none => .bad
  | .ne, true => match objM P h d "__eq__" with
    | some f => (call f [d, e] h).bindN fun r h' => match r with
      | .bl k => .ok (.bl (!k)) h'
      | _ => .bad
    | none => .bad
  | o, _ => lift ((cmpD o h d e).map .bl) h
def fldD (P : Pg) (h : Hh) (d : D) (f : Str) : Option D := match d with
  | .ref i => match h[i]? with
    | some (.obj c fs) => if okFld P c f then fs.lookup f else none
    | _ => none
  | _ => none
def setFld (P : Pg) (h : Hh) (d : D) (f : Str) (v : D) : Option Hh := match d with
  | .ref i => match h[i]? with
    | some (.obj c fs) => if okFld P c f && decide (fs.length < 900) then some (h.set i (.obj c (putF f v fs))) else none
    | _ => none
  | _ => none
inductive Kd where
  | str | lst
  deriving DecidableEq
/-- which built-in type's methods -/
def kindD (h : Hh) : D → Option Kd
  | .str _ => some .str
  | .ref i => match h[i]? with
    | some (.lst _) => some .lst
    | _ => none
  | _ => none
/-- the methods that we know -/
def bmK : Kd → Bm → Bool
  | .str, .join => true
  | .lst, .append => true
  | .lst, .pop => true
  | .lst, .extend => true
  | _, _ => false
/-- methods of built-in types -/
def bmD (m : Bm) (d : D) (ds : List D) (h : Hh) : Option (D × Hh) :=
  match m, d, ds with
  | .join, .str sep, [e] => (match e with
    | .tup xs => joinD sep xs
    | e => (lstOf h e).bind (joinD sep)).map fun z => (.str z, h)
  | m, .ref i, ds => match h[i]? with
    | some (.lst xs) => match m, ds with
      | .append, [v] => if xs.length < maxLen then some (.non, h.set i (.lst (xs ++ [v]))) else none
      | .pop, [] => match xs.getLast? with
        | some v => some (v, h.set i (.lst xs.dropLast))
        | none => none
      | .extend, [e] => match e with
        | .ref j => match h[j]? with
          | some (.lst ys) => if xs.length + ys.length < maxLen then some (.non, h.set i (.lst (xs ++ ys))) else none
          | _ => none
        | _ => none
      | _, _ => none
    | _ => none
  | _, _, _ => none

section
variable (P : Pg) (call : Call)
def dictOf : List D → Option (List (D × D))
  | [] => some []
  | [_] => none
  | k :: v :: r => (dictOf r).map ((k, v) :: ·)
def allP : List (D × D) → Bool
  | [] => true
  | p :: r => isFlat p.1 && allP r
def putAll : List (D × D) → List (D × D) → List (D × D)
  | [], acc => acc
  | p :: r, acc => putAll r (putD p.1 p.2 acc)
/-- a display's pairs: ints and texts as keys -/
def dispD (ds : List D) : Option (List (D × D)) := match dictOf ds with
  | some kvs => if allP kvs && decide (kvs.length ≤ 15) then some (putAll kvs []) else none
  | none => none
mutual
def evE : E → Sl → Hh → Res D
  | .slot i, σ, h => lift (slotD σ i) h
  | .lit d, _, h => .ok d h
  | .op o a b, σ, h => (evE a σ h).bind fun d h1 => (evE b σ h1).bind fun e h2 => liftH (opD o d e h2)
  | .cmp o a b, σ, h => (evE a σ h).bind fun d h1 => (evE b σ h1).bind fun e h2 => cmpO P call o d e h2
  | .chain o p a b c, σ, h => (evE a σ h).bind fun d h1 => (evE b σ h1).bind fun e h2 => match cmpD o h2 d e with
    | none => .bad
    | some false => .ok (.bl false) h2
    | some true => (evE c σ h2).bind fun g h3 => lift ((cmpD p h3 e g).map .bl) h3
  | .nt a, σ, h => (evE a σ h).bind fun d h1 => lift ((truth h1 d).map fun b => .bl (!b)) h1
  | .neg a, σ, h => (evE a σ h).bind fun d h1 => match d with
    | .int i => .ok (.int (-i)) h1
    | _ => .bad
  | .an a b, σ, h => (evE a σ h).bind fun d h1 => match truth h1 d with
    | some true => evE b σ h1
    | some false => .ok d h1
    | none => .bad
  | .orr a b, σ, h => (evE a σ h).bind fun d h1 => match truth h1 d with
    | some true => .ok d h1
    | some false => evE b σ h1
    | none => .bad
  | .ite c a b, σ, h => (evE c σ h).bind fun d h1 => match truth h1 d with
    | some true => evE a σ h1
    | some false => evE b σ h1
    | none => .bad
  | .tup xs, σ, h => (evEs xs σ h).bind fun ds h1 => if ds.length ≤ maxLen then .ok (.tup ds) h1 else .bad
  | .lst xs, σ, h => (evEs xs σ h).bind fun ds h1 => if ds.length ≤ maxLen then .ok (.ref h1.length) (h1 ++ [.lst ds]) else .bad
  | .dct xs, σ, h => (evEs xs σ h).bind fun ds h1 => match dispD ds with
    | some kvs => .ok (.ref h1.length) (h1 ++ [.dct kvs])
    | none => .bad
  | .sub a i, σ, h => (evE a σ h).bind fun d h1 => (evE i σ h1).bind fun k h2 => lift (subD h2 d k) h2
  | .slc a lo hi, σ, h => (evE a σ h).bind fun d h1 => (evO lo σ h1).bind fun l h2 => (evO hi σ h2).bind fun u h3 => liftH (slcD h3 d l u)
  | .rev a, σ, h => (evE a σ h).bind fun d h1 => liftH (revD h1 d)
  | .fld a f, σ, h => (evE a σ h).bind fun d h1 => lift (fldD P h1 d f) h1
  | .call f xs ks perm, σ, h => (evEs xs σ h).bind fun ds h1 => (evEs ks σ h1).bind fun gs h2 => match permD perm (ds ++ gs) with
    | some es => call f es h2
    | none => .bad
  | .mk c xs ks perm, σ, h => (evEs xs σ h).bind fun ds h1 => (evEs ks σ h1).bind fun gs h2 => match permD perm (.ref h2.length :: (ds ++ gs)), P.cls[c]? with
    | some es, some k => (call k.init es (h2 ++ [.obj c []])).bind fun r h3 => match r with
      | .non => .ok (.ref h2.length) h3
      | _ => .bad
    | _, _ => .bad
  | .meth a m xs ks perm, σ, h => (evE a σ h).bind fun d h1 => match objM P h1 d m with
    | some f => (evEs xs σ h1).bind fun ds h2 => (evEs ks σ h2).bind fun gs h3 => match permD perm (d :: (ds ++ gs)) with
      | some es => call f es h3
      | none => .bad
    | none => .bad
  | .blt b xs, σ, h => (evEs xs σ h).bind fun ds h1 => liftH (btD b ds h1)
  | .bm m a xs, σ, h => (evE a σ h).bind fun d h1 => match kindD h1 d with
    | some k => match bmK k m with
      | true => (evEs xs σ h1).bind fun ds h2 => if kindD h2 d = some k then liftH (bmD m d ds h2) else .bad
      | false => .bad
    | none => .bad
  | .isi a ts, σ, h => (evE a σ h).bind fun d h1 => lift ((mapO (isiD h1 d) ts).map fun bs => .bl (bs.any id)) h1
  | .lc elt t s ifs own, σ, h => (evIt s σ h).bind fun src h1 => (goLc src (fun d h2 => (asT t d (wipeS σ own) h2).bind fun σ' h3 => (evTs ifs σ' h3).bind fun b h4 => match b with
      | true => (evE elt σ' h4).bind fun e h5 => .ok (some e) h5
      | false => .ok none h4) src.n 0 [] h1).bind fun ds h2 => .ok (.ref h2.length) (h2 ++ [.lst ds])
def evEs : Es → Sl → Hh → Res (List D)
  | .nil, _, h => .ok [] h
  | .cons e r, σ, h => (evE e σ h).bind fun d h1 => (evEs r σ h1).bind fun ds h2 => .ok (d :: ds) h2
  | .star e r, σ, h => (evE e σ h).bind fun d h1 => match itemsOf h1 d with
    | some xs => (evEs r σ h1).bind fun ds h2 => .ok (xs ++ ds) h2
    | none => .bad
/-- the tests of a comprehension -/
def evTs : Es → Sl → Hh → Res Bool
  | .nil, _, h => .ok true h
  | .cons e r, σ, h => (evE e σ h).bind fun d h1 => match truth h1 d with
    | some true => evTs r σ h1
    | some false => .ok false h1
    | none => .bad
  | .star _ _, _, _ => .bad
def evO : Oe → Sl → Hh → Res (Option Int)
  | .none, _, h => .ok none h
  | .some e, σ, h => (evE e σ h).bind fun d h1 => match d with
    | .int i => .ok (some i) h1
    | _ => .bad
def asT : Tg → D → Sl → Hh → Res Sl
  | .name i, d, σ, h => .ok (σ.set i (some d)) h
  | .tup ts, d, σ, h => match d with
    | .tup xs => asTs ts xs σ h
    | _ => .bad
  | .sub a i, v, σ, h => (evE a σ h).bind fun d h1 => (evE i σ h1).bind fun k h2 => match setD h2 d k v with
    | some h3 => .ok σ h3
    | none => .bad
  | .fld a f, v, σ, h => (evE a σ h).bind fun d h1 => match setFld P h1 d f v with
    | some h2 => .ok σ h2
    | none => .bad
def asTs : Tgs → List D → Sl → Hh → Res Sl
  | .nil, [], σ, h => .ok σ h
  | .nil, _ :: _, _, _ => .bad
  | .cons _ _, [], _, _ => .bad
  | .cons t r, d :: ds, σ, h => (asT t d σ h).bind fun σ1 h1 => asTs r ds σ1 h1
def evIt : It → Sl → Hh → Res Src
  | .e a, σ, h => (evE a σ h).bind fun d h1 => lift (srcOf h1 d) h1
  | .range1 a, σ, h => (evE a σ h).bind fun d h1 => match d with
    | .int n => if okRange 0 n then .ok (srcRange 0 n) h1 else .bad
    | _ => .bad
  | .range2 a b, σ, h => (evE a σ h).bind fun d h1 => (evE b σ h1).bind fun e h2 => match d, e with
    | .int m, .int n => if okRange m n then .ok (srcRange m n) h2 else .bad
    | _, _ => .bad
  | .enum a, σ, h => (evE a σ h).bind fun d h1 => lift ((srcOf h1 d).map (srcEnum · 0)) h1
  | .enumS a k, σ, h => (evE a σ h).bind fun d h1 => (evE k σ h1).bind fun e h2 => match e with
    | .int k0 => lift ((srcOf h2 d).map (srcEnum · k0)) h2
    | _ => .bad
  | .zip a b, σ, h => (evE a σ h).bind fun d h1 => (evE b σ h1).bind fun e h2 => match srcOf h2 d, srcOf h2 e with
    | some s, some t => .ok (srcZip s t) h2
    | _, _ => .bad
  | .vals a, σ, h => (evE a σ h).bind fun d h1 => match d with
    | .ref i => match h1[i]? with
      | some (.dct kvs) => .ok (srcDict i kvs (·.2)) h1
      | _ => .bad
    | _ => .bad
  | .items a, σ, h => (evE a σ h).bind fun d h1 => match d with
    | .ref i => match h1[i]? with
      | some (.dct kvs) => .ok (srcDict i kvs fun kv => .tup [kv.1, kv.2]) h1
      | _ => .bad
    | _ => .bad
end
def evB (c : E) (σ : Sl) (h : Hh) : Res Bool := (evE P call c σ h).bind fun d h1 => lift (truth h1 d) h1
mutual
def evS : S → Sl → Hh → Res (Fl × Sl)
  | .expr e, σ, h => ((evE P call e σ h).atS σ).bind fun _ h1 => .ok (.nx, σ) h1
  | .set t e, σ, h => ((evE P call e σ h).atS σ).bind fun d h1 => ((asT P call t d σ h1).atS σ).bind fun σ' h2 => .ok (.nx, σ') h2
  | .aug i o e, σ, h => match slotD σ i with
    | some d => ((evE P call e σ h).atS σ).bind fun x h1 => (liftH (opD o d x h1)).bind fun y h2 => .ok (.nx, σ.set i (some y)) h2
    | none => .bad
  | .augS a i o e, σ, h => ((evE P call a σ h).atS σ).bind fun d h1 => ((evE P call i σ h1).atS σ).bind fun k h2 => (lift (subD h2 d k) h2).bind fun old h3 =>
      ((evE P call e σ h3).atS σ).bind fun x h4 => (liftH (opD o old x h4)).bind fun y h5 => match setD h5 d k y with
        | some h6 => .ok (.nx, σ) h6
        | none => .bad
  | .ret e, σ, h => ((evE P call e σ h).atS σ).bind fun d h1 => .ok (.rt d, σ) h1
  | .iff c a b, σ, h => ((evB P call c σ h).atS σ).bind fun t h1 => match t with
    | true => evSs a σ h1
    | false => evSs b σ h1
  | .for_ t s b, σ, h => ((evIt P call s σ h).atS σ).bind fun src h1 => goFor src (fun d σ1 h2 => ((asT P call t d σ1 h2).atS σ1).bind fun σ2 h3 => evSs b σ2 h3) src.n 0 σ h1
  | .while_ c b, σ, h => goWhile (fun σ1 h1 => (evB P call c σ1 h1).atS σ1) (fun σ1 h1 => evSs b σ1 h1) P.fuel σ h
  | .raise_ _ _, _, _ => .bad
  | .pass, σ, h => .ok (.nx, σ) h
def evSs : Ss → Sl → Hh → Res (Fl × Sl)
  | .nil, σ, h => .ok (.nx, σ) h
  | .cons s r, σ, h => (evS s σ h).bind fun q h1 => match q.1 with
    | .nx => evSs r q.2 h1
    | .rt d => .ok (.rt d, q.2) h1
end
end
def runFn (P : Pg) (call : Call) (f : Fn) (ds : List D) (h : Hh) : Res D :=
  if ds.length = f.nps then ((evSs P call f.body (ds.map some ++ List.replicate (f.nsl - ds.length) none) h).bind fun q h1 => match q.1 with
    | .nx => .ok .non h1
    | .rt d => .ok d h1).atS []
  else .bad
def fnAt (P : Pg) : Nat → Call
  | 0, _, _, _ => .bad
  | k + 1, i, ds, h => match P.fns[i]? with
    | some f => runFn P (fnAt P k) f ds h
    | none => .bad
end Q
end
section
set_option autoImplicit false
set_option Elab.async false
set_option linter.all false
set_option maxRecDepth 4000
set_option maxHeartbeats 1000000
/-! Q: how values and cells stand in the abstract heap of the hand layer. -/
namespace Q
open PySem L2

/-- two lists, item by item -/
inductive All2 {α β : Type} (R : α → β → Prop) : List α → List β → Prop
  | nil : All2 R [] []
  | cons {a b as bs} : R a b → All2 R as bs → All2 R (a :: as) (b :: bs)
namespace All2
variable {α β γ : Type} {R S : α → β → Prop}
theorem len : ∀ {as : List α} {bs : List β}, All2 R as bs → as.length = bs.length
  | _, _, .nil => rfl
  | _, _, .cons _ t => by simp [len t]
theorem imp (f : ∀ a b, R a b → S a b) : ∀ {as : List α} {bs : List β}, All2 R as bs → All2 S as bs
  | _, _, .nil => .nil
  | _, _, .cons r t => .cons (f _ _ r) (imp f t)
theorem app : ∀ {as as' : List α} {bs bs' : List β}, All2 R as bs → All2 R as' bs' → All2 R (as ++ as') (bs ++ bs')
  | _, _, _, _, .nil, t => t
  | _, _, _, _, .cons r s, t => .cons r (app s t)
theorem getR : ∀ {as : List α} {bs : List β} {i : Nat} {b : β}, All2 R as bs → bs[i]? = some b → ∃ a, as[i]? = some a ∧ R a b
  | _, _, _, _, .nil, e => by simp at e
  | _, _, 0, _, .cons r _, e => by simp at e; subst e; exact ⟨_, rfl, r⟩
  | _, _, i + 1, b, .cons _ t, e => by
    obtain ⟨a, h1, h2⟩ := getR (i := i) (b := b) t (by simpa using e)
    exact ⟨a, by simpa using h1, h2⟩
theorem getL : ∀ {as : List α} {bs : List β} {i : Nat} {a : α}, All2 R as bs → as[i]? = some a → ∃ b, bs[i]? = some b ∧ R a b
  | _, _, _, _, .nil, e => by simp at e
  | _, _, 0, _, .cons r _, e => by simp at e; subst e; exact ⟨_, rfl, r⟩
  | _, _, i + 1, a, .cons _ t, e => by
    obtain ⟨b, h1, h2⟩ := getL (i := i) (a := a) t (by simpa using e)
    exact ⟨b, by simpa using h1, h2⟩
theorem set {a : α} {b : β} (r : R a b) : ∀ {as : List α} {bs : List β} (i : Nat), All2 R as bs → All2 R (as.set i a) (bs.set i b)
  | _, _, _, .nil => .nil
  | _, _, 0, .cons _ t => .cons r t
  | _, _, i + 1, .cons q t => .cons q (set r i t)
theorem take : ∀ {as : List α} {bs : List β} (n : Nat), All2 R as bs → All2 R (as.take n) (bs.take n)
  | _, _, 0, _ => by simpa using All2.nil
  | _, _, _ + 1, .nil => .nil
  | _, _, n + 1, .cons r t => .cons r (take n t)
theorem drop : ∀ {as : List α} {bs : List β} (n : Nat), All2 R as bs → All2 R (as.drop n) (bs.drop n)
  | _, _, 0, h => h
  | _, _, _ + 1, .nil => .nil
  | _, _, n + 1, .cons _ t => drop n t
theorem rev : ∀ {as : List α} {bs : List β}, All2 R as bs → All2 R as.reverse bs.reverse
  | _, _, .nil => .nil
  | _, _, .cons r t => by rw [List.reverse_cons, List.reverse_cons]; exact app (rev t) (.cons r .nil)
theorem rep (n : Nat) {as : List α} {bs : List β} (h : All2 R as bs) : All2 R (repL n as) (repL n bs) := by
  induction n with
  | zero => exact .nil
  | succ n ih => exact app h ih
theorem mapL {f : γ → α} {as : List γ} {bs : List β} (h : All2 (fun c b => R (f c) b) as bs) : All2 R (as.map f) bs := by
  induction h with
  | nil => exact .nil
  | cons r _ ih => exact .cons r ih
theorem mapR {f : γ → β} {as : List α} {bs : List γ} (h : All2 (fun a c => R a (f c)) as bs) : All2 R as (bs.map f) := by
  induction h with
  | nil => exact .nil
  | cons r _ ih => exact .cons r ih
end All2

/-- the written part, the classes' addresses -/
structure Gm where
  prog : Program
  w : World
  K : W.Frag
  cA : Nat → Option Addr

mutual
inductive Rv (K : W.Frag) (ι : List Addr) (H : Hp) : V → D → Prop
  | non : Rv K ι H .non .non
  | bl (b : Bool) : Rv K ι H (.bl b) (.bl b)
  | int (i : Int) : Rv K ι H (.int i) (.int i)
  | str (x : Str) : Rv K ι H (.str x) (.str x)
  | tup {a : Addr} {vs : List V} {ds : List D} : SqT K H a vs → Rvs K ι H vs ds → Rv K ι H (.ref a) (.tup ds)
  | ref {i : Nat} {a : Addr} : ι[i]? = some a → Rv K ι H (.ref a) (.ref i)
inductive Rvs (K : W.Frag) (ι : List Addr) (H : Hp) : List V → List D → Prop
  | nil : Rvs K ι H [] []
  | cons {v : V} {vs : List V} {d : D} {ds : List D} : Rv K ι H v d → Rvs K ι H vs ds → Rvs K ι H (v :: vs) (d :: ds)
end
theorem Rvs.all {K : W.Frag} {ι : List Addr} {H : Hp} : ∀ {vs : List V} {ds : List D}, Rvs K ι H vs ds → All2 (Rv K ι H) vs ds
  | _, _, .nil => .nil
  | _, _, .cons r t => .cons r (Rvs.all t)
theorem Rvs.of {K : W.Frag} {ι : List Addr} {H : Hp} : ∀ {vs : List V} {ds : List D}, All2 (Rv K ι H) vs ds → Rvs K ι H vs ds
  | _, _, .nil => .nil
  | _, _, .cons r t => .cons r (Rvs.of t)
theorem Rv.tupA {K : W.Frag} {ι : List Addr} {H : Hp} {a : Addr} {vs : List V} {ds : List D} (h : SqT K H a vs) (r : All2 (Rv K ι H) vs ds) : Rv K ι H (.ref a) (.tup ds) := .tup h (.of r)
theorem Rv.of_tup {K : W.Frag} {ι : List Addr} {H : Hp} {v : V} {ds : List D} (r : Rv K ι H v (.tup ds)) : ∃ a vs, v = .ref a ∧ SqT K H a vs ∧ All2 (Rv K ι H) vs ds := by
  cases r with
  | tup h r => exact ⟨_, _, rfl, h, r.all⟩
theorem Rv.of_ref {K : W.Frag} {ι : List Addr} {H : Hp} {v : V} {i : Nat} (r : Rv K ι H v (.ref i)) : ∃ a, v = .ref a ∧ ι[i]? = some a := by
  cases r with
  | ref h => exact ⟨_, rfl, h⟩
theorem Rv.of_int {K : W.Frag} {ι : List Addr} {H : Hp} {v : V} {i : Int} (r : Rv K ι H v (.int i)) : v = .int i := by cases r; rfl
theorem Rv.of_bl {K : W.Frag} {ι : List Addr} {H : Hp} {v : V} {i : Bool} (r : Rv K ι H v (.bl i)) : v = .bl i := by cases r; rfl
theorem Rv.of_str {K : W.Frag} {ι : List Addr} {H : Hp} {v : V} {i : Str} (r : Rv K ι H v (.str i)) : v = .str i := by cases r; rfl
theorem Rv.of_non {K : W.Frag} {ι : List Addr} {H : Hp} {v : V} (r : Rv K ι H v .non) : v = .non := by cases r; rfl

/-! ### cells -/
/-- a dict with tuple keys, by its entries -/
def DkO (G : Gm) (a : Addr) (xs : List (NestedKey × Addr × Value)) : HO := .ext fun h => ∃ o es ep, h.get? a = some o ∧ o.ExactDict ∧ o.data = .dict es ep ∧ es.toList = xs.map (entryOfKey (nestedKind G.prog G.w))
def Rf (K : W.Frag) (ι : List Addr) (H : Hp) : Str × V → Str × D → Prop := fun p q => p.1 = q.1 ∧ Rv K ι H p.2 q.2
def keyD : Key → D
  | .inl i => .int i
  | .inr x => .str x
def Rk (K : W.Frag) (ι : List Addr) (H : Hp) : Key × V → D × D → Prop := fun p q => keyD p.1 = q.1 ∧ Rv K ι H p.2 q.2
def Rt (K : W.Frag) (ι : List Addr) (H : Hp) : NestedKey × Addr × Value → D × D → Prop := fun p q =>
  q.1.kd = some p.1 ∧ isTupK q.1 = true ∧ Rv K ι H (.ref p.2.1) q.1 ∧ ∃ v, RelV v p.2.2 ∧ Rv K ι H v q.2
def Rc (G : Gm) (ι : List Addr) (H : Hp) (a : Addr) : C → Prop
  | .lst ds => ∃ vs, H a = some (.lst vs) ∧ All2 (Rv G.K ι H) vs ds
  | .ro ds => ∃ o vs, H a = some (.frz o (.lst vs)) ∧ All2 (Rv G.K ι H) vs ds
  | .dct kvs => (∃ ks, H a = some (.dK ks) ∧ All2 (Rk G.K ι H) ks kvs) ∨
      ((a == sysModules) = false ∧ kvs ≠ [] ∧ kvs.length ≤ maxLen ∧ ∃ xs, H a = some (DkO G a xs) ∧ All2 (Rt G.K ι H) xs kvs ∧ (xs.map (·.1)).Nodup)
  | .set _ => False
  | .obj c fs => ∃ C dx vs, G.cA c = some C ∧ H a = some (.ins C dx vs) ∧ All2 (Rf G.K ι H) vs fs
/-- the cells -/
structure Rh (G : Gm) (ι : List Addr) (H : Hp) (h : Hh) : Prop where
  len : ι.length = h.length
  nd : ι.Nodup
  at_ : ∀ (i : Nat) (a : Addr) (c : C), ι[i]? = some a → h[i]? = some c → Rc G ι H a c
/-- the slots -/
structure Rs (K : W.Frag) (ι : List Addr) (H : Hp) (σ : L2.St) (ds : Sl) : Prop where
  len : σ.length = ds.length
  at_ : ∀ (i : Nat) (d : D), ds[i]? = some (some d) → ∃ v, σ[i]? = some (some v) ∧ Rv K ι H v d
/-- a later heap -/
structure Ext (ι : List Addr) (H : Hp) (ι' : List Addr) (H' : Hp) : Prop where
  pre : ∃ κ, ι' = ι ++ κ ∧ ∀ a ∈ κ, H a = none
  keep : ∀ a o, H a = some o → a ∉ ι → H' a = some o
  live : ∀ a, H' a = none → H a = none
  tups : ∀ a xs, H a = some (.tup xs) → H' a = some (.tup xs)
  frzs : ∀ a o u, H a = some (.frz o u) → H' a = some (.frz o u)

section
variable {G : Gm} {ι ι' ι'' : List Addr} {H H' H'' : Hp} {h h' : Hh}
theorem Ext.refl : Ext ι H ι H := ⟨⟨[], by simp, by simp⟩, fun _ _ e _ => e, fun _ e => e, fun _ _ e => e, fun _ _ _ e => e⟩
theorem Ext.trans (e : Ext ι H ι' H') (f : Ext ι' H' ι'' H'') : Ext ι H ι'' H'' := by
  obtain ⟨κ, e1, n1⟩ := e.pre
  obtain ⟨κ', e2, n2⟩ := f.pre
  refine ⟨⟨κ ++ κ', by rw [e2, e1, List.append_assoc], fun a ha => ?_⟩, fun a o q nq => ?_, fun a q => e.live a (f.live a q), fun a xs q => f.tups a xs (e.tups a xs q), fun a o u q => f.frzs a o u (e.frzs a o u q)⟩
  · rcases List.mem_append.mp ha with z | z
    · exact n1 a z
    · exact e.live a (n2 a z)
  · refine f.keep a o (e.keep a o q nq) fun z => ?_
    rw [e1] at z
    rcases List.mem_append.mp z with z | z
    · exact nq z
    · rw [n1 a z] at q; cases q
theorem Ext.get (e : Ext ι H ι' H') {i : Nat} {a : Addr} (q : ι[i]? = some a) : ι'[i]? = some a := by
  obtain ⟨κ, e1, _⟩ := e.pre
  rw [e1, List.getElem?_append_left (List.getElem?_eq_some_iff.mp q).1]
  exact q
/-- what values need of it -/
structure Ext0 (ι : List Addr) (H : Hp) (ι' : List Addr) (H' : Hp) : Prop where
  get : ∀ (i : Nat) (a : Addr), ι[i]? = some a → ι'[i]? = some a
  tups : ∀ a xs, H a = some (.tup xs) → H' a = some (.tup xs)
  frzs : ∀ a o u, H a = some (.frz o u) → H' a = some (.frz o u)
theorem Ext.to0 (e : Ext ι H ι' H') : Ext0 ι H ι' H' := ⟨fun _ _ q => e.get q, e.tups, e.frzs⟩
theorem Ext0.sqT {K : W.Frag} (e : Ext0 ι H ι' H') {a : Addr} {vs : List V} (q : SqT K H a vs) : SqT K H' a vs := by
  rcases q with (q | ⟨o, q⟩) | q
  · exact .inl (.inl (e.tups _ _ q))
  · exact .inl (.inr ⟨o, e.frzs _ _ _ q⟩)
  · exact .inr q
mutual
theorem Rv.ext0 {K : W.Frag} (e : Ext0 ι H ι' H') : ∀ {v : V} {d : D}, Rv K ι H v d → Rv K ι' H' v d
  | _, _, .non => .non
  | _, _, .bl b => .bl b
  | _, _, .int b => .int b
  | _, _, .str b => .str b
  | _, _, .tup h r => .tup (e.sqT h) (Rvs.ext0 e r)
  | _, _, .ref q => .ref (e.get _ _ q)
theorem Rvs.ext0 {K : W.Frag} (e : Ext0 ι H ι' H') : ∀ {v : List V} {d : List D}, Rvs K ι H v d → Rvs K ι' H' v d
  | _, _, .nil => .nil
  | _, _, .cons r t => .cons (Rv.ext0 e r) (Rvs.ext0 e t)
end
theorem Rv.ext {K : W.Frag} (e : Ext ι H ι' H') {v : V} {d : D} (r : Rv K ι H v d) : Rv K ι' H' v d := r.ext0 e.to0
theorem Ext.sqT {K : W.Frag} (e : Ext ι H ι' H') {a : Addr} {vs : List V} (q : SqT K H a vs) : SqT K H' a vs := e.to0.sqT q
theorem ext2 {K : W.Frag} (e : Ext ι H ι' H') {vs : List V} {ds : List D} (r : All2 (Rv K ι H) vs ds) : All2 (Rv K ι' H') vs ds := r.imp fun _ _ => Rv.ext e
theorem ext20 {K : W.Frag} (e : Ext0 ι H ι' H') {vs : List V} {ds : List D} (r : All2 (Rv K ι H) vs ds) : All2 (Rv K ι' H') vs ds := r.imp fun _ _ => Rv.ext0 e
theorem Rs.ext {K : W.Frag} {σ : L2.St} {ds : Sl} (e : Ext ι H ι' H') (r : Rs K ι H σ ds) : Rs K ι' H' σ ds := ⟨r.len, fun i d q => let ⟨v, h1, h2⟩ := r.at_ i d q; ⟨v, h1, h2.ext e⟩⟩
/-- a cell that stands as it was -/
theorem Rc.ext0 (e : Ext0 ι H ι' H') {a : Addr} {c : C} (r : Rc G ι H a c) (s : H' a = H a) : Rc G ι' H' a c := by
  cases c with
  | lst ds => obtain ⟨vs, h1, h2⟩ := r; exact ⟨vs, s.trans h1, ext20 e h2⟩
  | ro ds => obtain ⟨o, vs, h1, h2⟩ := r; exact ⟨o, vs, s.trans h1, ext20 e h2⟩
  | dct kvs =>
    rcases r with ⟨ks, h1, h2⟩ | ⟨h0, hne, hz, xs, h1, h2, h3⟩
    · exact .inl ⟨ks, s.trans h1, h2.imp fun _ _ z => ⟨z.1, z.2.ext0 e⟩⟩
    · exact .inr ⟨h0, hne, hz, xs, s.trans h1, h2.imp fun _ _ ⟨z1, z2, z3, v, z4, z5⟩ => ⟨z1, z2, z3.ext0 e, v, z4, z5.ext0 e⟩, h3⟩
  | set ks => exact r
  | obj c fs => obtain ⟨C, dx, vs, h0, h1, h2⟩ := r; exact ⟨C, dx, vs, h0, s.trans h1, h2.imp fun _ _ z => ⟨z.1, z.2.ext0 e⟩⟩
theorem Rc.ext (e : Ext ι H ι' H') {a : Addr} {c : C} (r : Rc G ι H a c) (s : H' a = H a) : Rc G ι' H' a c := r.ext0 e.to0 s
theorem Rc.live {a : Addr} {c : C} (r : Rc G ι H a c) : H a ≠ none := by
  cases c with
  | lst ds => obtain ⟨vs, h1, _⟩ := r; rw [h1]; nofun
  | ro ds => obtain ⟨o, vs, h1, _⟩ := r; rw [h1]; nofun
  | dct kvs =>
    rcases r with ⟨ks, h1, h2⟩ | ⟨_, _, _, xs, h1, h2, h3⟩
    · rw [h1]; nofun
    · rw [h1]; nofun
  | set ks => exact r.elim
  | obj c fs => obtain ⟨C, dx, vs, h0, h1, h2⟩ := r; rw [h1]; nofun
theorem Rc.notup {a : Addr} {c : C} (r : Rc G ι H a c) (xs : List V) : H a ≠ some (.tup xs) := by
  cases c with
  | lst ds => obtain ⟨vs, h1, _⟩ := r; rw [h1]; nofun
  | ro ds => obtain ⟨o, vs, h1, _⟩ := r; rw [h1]; nofun
  | dct kvs =>
    rcases r with ⟨ks, h1, h2⟩ | ⟨_, _, _, xs, h1, h2, h3⟩
    · rw [h1]; nofun
    · rw [h1]; nofun
  | set ks => exact r.elim
  | obj c fs => obtain ⟨C, dx, vs, h0, h1, h2⟩ := r; rw [h1]; nofun
theorem Rh.cell (r : Rh G ι H h) {a : Addr} (ha : a ∈ ι) : ∃ (i : Nat) (c : C), ι[i]? = some a ∧ h[i]? = some c ∧ Rc G ι H a c := by
  obtain ⟨i, hi⟩ := List.mem_iff_getElem?.mp ha
  have hl : i < h.length := by rw [← r.len]; exact (List.getElem?_eq_some_iff.mp hi).1
  exact ⟨i, h[i], hi, by simp [hl], r.at_ i a _ hi (by simp [hl])⟩
theorem Rh.live (r : Rh G ι H h) {a : Addr} (ha : a ∈ ι) : H a ≠ none := let ⟨_, _, _, _, q⟩ := r.cell ha; q.live
theorem Rh.addr (r : Rh G ι H h) {i : Nat} {c : C} (q : h[i]? = some c) : ∃ a, ι[i]? = some a ∧ Rc G ι H a c := by
  have hl : i < ι.length := by rw [r.len]; exact (List.getElem?_eq_some_iff.mp q).1
  exact ⟨ι[i], by simp [hl], r.at_ i _ c (by simp [hl]) q⟩
/-- where a value of a cell stands -/
theorem Rh.ref (r : Rh G ι H h) {v : V} {i : Nat} {c : C} (rv : Rv G.K ι H v (.ref i)) (q : h[i]? = some c) : ∃ a, v = .ref a ∧ ι[i]? = some a ∧ Rc G ι H a c := by
  obtain ⟨a, e, ha⟩ := rv.of_ref
  exact ⟨a, e, ha, r.at_ i a c ha q⟩
/-- the heap changed outside of the cells -/
theorem Rh.off (r : Rh G ι H h) (e : Ext ι H ι H') (s : ∀ a ∈ ι, H' a = H a) : Rh G ι H' h :=
  ⟨r.len, r.nd, fun i a c q1 q2 => (r.at_ i a c q1 q2).ext e (s a (List.mem_of_getElem? q1))⟩
/-- something new beside the cells -/
theorem ext_tup {p : Addr} {o : HO} (hp : H p = none) : Ext ι H ι (upd H p o) := by
  have ne : ∀ a u, H a = some u → a ≠ p := fun a u q z => by rw [z, hp] at q; cases q
  refine ⟨⟨[], by simp, by simp⟩, fun a u q _ => by rw [upd_ne (ne a u q)]; exact q, fun a q => ?_, fun a xs q => by rw [upd_ne (ne _ _ q)]; exact q, fun a u x q => by rw [upd_ne (ne _ _ q)]; exact q⟩
  by_cases z : a = p
  · rw [z]; exact hp
  · rw [upd_ne z] at q; exact q
theorem Rh.tup {p : Addr} {o : HO} (r : Rh G ι H h) (hp : H p = none) : Rh G ι (upd H p o) h :=
  r.off (ext_tup hp) fun a ha => upd_ne fun z => r.live ha (z ▸ hp)
/-- a new cell -/
theorem ext_cell {p : Addr} {o : HO} (hp : H p = none) : Ext ι H (ι ++ [p]) (upd H p o) := by
  have e := ext_tup (ι := ι) (o := o) hp
  exact ⟨⟨[p], rfl, fun a ha => by rw [List.mem_singleton.mp ha]; exact hp⟩, e.keep, e.live, e.tups, e.frzs⟩
theorem Rh.more {p : Addr} {c : C} (r : Rh G ι H h) (e : Ext ι H (ι ++ [p]) H') (hp : H p = none) (s : ∀ a ∈ ι, H' a = H a) (rc : Rc G (ι ++ [p]) H' p c) : Rh G (ι ++ [p]) H' (h ++ [c]) := by
  refine ⟨by simp [r.len], ?_, fun i a d q1 q2 => ?_⟩
  · rw [List.nodup_append]
    refine ⟨r.nd, by simp, fun a ha b hb z => ?_⟩
    rw [List.mem_singleton.mp hb] at z
    exact r.live ha (z ▸ hp)
  · by_cases hi : i < ι.length
    · rw [List.getElem?_append_left hi] at q1
      rw [List.getElem?_append_left (by rw [← r.len]; exact hi)] at q2
      exact (r.at_ i a d q1 q2).ext e (s a (List.mem_of_getElem? q1))
    · have hl : i < (ι ++ [p]).length := (List.getElem?_eq_some_iff.mp q1).1
      have e1 : i = ι.length := by simp at hl; omega
      subst e1
      rw [List.getElem?_append_right (Nat.le_refl _)] at q1
      rw [r.len, List.getElem?_append_right (Nat.le_refl _)] at q2
      simp at q1 q2
      subst q1; subst q2
      exact rc
theorem Rh.new {p : Addr} {o : HO} {c : C} (r : Rh G ι H h) (hp : H p = none) (rc : Rc G (ι ++ [p]) (upd H p o) p c) : Rh G (ι ++ [p]) (upd H p o) (h ++ [c]) :=
  r.more (ext_cell hp) hp (fun a ha => upd_ne fun z => r.live ha (z ▸ hp)) rc
theorem Rh.newref {p : Addr} (r : Rh G ι H h) {K : W.Frag} : Rv K (ι ++ [p]) H' (.ref p) (.ref h.length) := .ref (by rw [← r.len]; simp)
/-- a cell changed -/
theorem ext_set {a : Addr} {o : HO} (r : Rh G ι H h) (ha : a ∈ ι) (nf : ∀ u x, H a ≠ some (.frz u x)) : Ext ι H ι (upd H a o) := by
  obtain ⟨i, c, hi, hc, rc⟩ := r.cell ha
  refine ⟨⟨[], by simp, by simp⟩, fun b u q nb => by rw [upd_ne (show b ≠ a from fun z => nb (by rw [z]; exact ha))]; exact q, fun b q => ?_, fun b xs q => ?_, fun b u x q => ?_⟩
  · by_cases z : b = a
    · rw [z, upd_same] at q; cases q
    · rw [upd_ne z] at q; exact q
  · rw [upd_ne (show b ≠ a from fun z => rc.notup xs (by rw [← z]; exact q))]; exact q
  · rw [upd_ne (show b ≠ a from fun z => nf u x (by rw [← z]; exact q))]; exact q
theorem Rh.put {i : Nat} {a : Addr} {o : HO} {c : C} (r : Rh G ι H h) (hi : ι[i]? = some a) (nf : ∀ u x, H a ≠ some (.frz u x)) (rc : Rc G ι (upd H a o) a c) : Rh G ι (upd H a o) (h.set i c) := by
  have e := ext_set (o := o) r (List.mem_of_getElem? hi) nf
  refine ⟨by simp [r.len], r.nd, fun j b d q1 q2 => ?_⟩
  by_cases hj : j = i
  · subst hj
    rw [hi] at q1; cases q1
    have hl : j < h.length := by rw [← r.len]; exact (List.getElem?_eq_some_iff.mp hi).1
    rw [List.getElem?_set_self hl] at q2
    cases q2
    exact rc
  · rw [List.getElem?_set_ne (Ne.symm hj)] at q2
    have ne : b ≠ a := fun z => hj (by
      obtain ⟨l1, e1⟩ := List.getElem?_eq_some_iff.mp q1
      obtain ⟨l2, e2⟩ := List.getElem?_eq_some_iff.mp hi
      exact (List.getElem_inj r.nd).mp (e1.trans (z.trans e2.symm)))
    exact (r.at_ j b d q1 q2).ext e (upd_ne ne)
end

/-! ### what a run leaves -/
/-- an error that leaves: its class's address, its own dict -/
def Rx (G : Gm) (c : Nat) (fs : List (Str × D)) (cv : Value) (dd : Option Addr) (ι : List Addr) (H : Hp) : Prop :=
  ∃ C d vs, G.cA c = some C ∧ cv = .ref C ∧ dd = some d ∧ H d = some (.xd vs) ∧ All2 (Rf G.K ι H) vs fs
def Post {α β : Type} (G : Gm) (W : WX) (Rep : List Addr → Hp → β → α → Prop) (σ : L2.St) (ι : List Addr) (H : Hp) (r : Res α) (Q : β → Hp → Prop) : Prop :=
  match r with
  | .ok a h' => ∀ b ι' H', Ext ι H ι' H' → Rh G ι' H' h' → Rep ι' H' b a → Q b H'
  | .exc c fs _ h' => ∀ cv dd ι' H', Ext ι H ι' H' → Rh G ι' H' h' → Rx G c fs cv dd ι' H' → W cv dd σ H'
  | .bad => False
/-- the reading of a run -/
def tR {α β : Type} (G : Gm) (W : WX) (Rep : List Addr → Hp → β → α → Prop) (f : Sl → Hh → Res α) : L2.St → Hp → (β → Hp → Prop) → Prop := fun σ H Q =>
  ∃ ι h ds, Rh G ι H h ∧ Rs G.K ι H σ ds ∧ Post G W Rep σ ι H (f ds h) Q
section
variable {α β γ δ : Type} {G : Gm} {W : WX} {Rep : List Addr → Hp → β → α → Prop} {Rep2 : List Addr → Hp → δ → γ → Prop} {σ : L2.St} {ι ι' : List Addr} {H H' : Hp} {h : Hh} {ds : Sl}
theorem Post.later {r : Res α} {Q : β → Hp → Prop} (e : Ext ι H ι' H') (p : Post G W Rep σ ι H r Q) : Post G W Rep σ ι' H' r Q := by
  cases r with
  | ok a h' => exact fun b ι2 H2 e2 rh rp => p b ι2 H2 (e.trans e2) rh rp
  | exc c fs s' h' => exact fun cv dd ι2 H2 e2 rh rx => p cv dd ι2 H2 (e.trans e2) rh rx
  | bad => exact p
/-- one run behind another: the first one's reading, with what is left of the second one -/
theorem Post.seq {r : Res α} {k : α → Hh → Res γ} {Q : δ → Hp → Prop} (p : Post G W Rep2 σ ι H (r.bind k) Q) (rs : Rs G.K ι H σ ds) :
    Post G W Rep σ ι H r fun b H1 => ∃ a ι1 h1, Ext ι H ι1 H1 ∧ Rh G ι1 H1 h1 ∧ Rs G.K ι1 H1 σ ds ∧ Rep ι1 H1 b a ∧ Post G W Rep2 σ ι1 H1 (k a h1) Q := by
  cases r with
  | ok a h' => exact fun b ι2 H2 e2 rh rp => ⟨a, ι2, h', e2, rh, rs.ext e2, rp, Post.later e2 p⟩
  | exc c fs s' h' => exact p
  | bad => exact p
theorem tR.of {f : Sl → Hh → Res α} {Q : β → Hp → Prop} (rh : Rh G ι H h) (rs : Rs G.K ι H σ ds) (p : Post G W Rep σ ι H (f ds h) Q) : tR G W Rep f σ H Q := ⟨ι, h, ds, rh, rs, p⟩
theorem Post.mono {r : Res α} {Q Q' : β → Hp → Prop} (p : Post G W Rep σ ι H r Q) (i : ∀ b H', Q b H' → Q' b H') : Post G W Rep σ ι H r Q' := by
  cases r with
  | ok a h' => exact fun b ι2 H2 e2 rh rp => i _ _ (p b ι2 H2 e2 rh rp)
  | exc c fs s' h' => exact p
  | bad => exact p
theorem Post.now {a : α} {b : β} {Q : β → Hp → Prop} (p : Post G W Rep σ ι H (.ok a h) Q) (rh : Rh G ι H h) (r : Rep ι H b a) : Q b H := p b ι H .refl rh r
end
end Q
end
section
set_option autoImplicit false
set_option Elab.async false
set_option linter.all false
set_option maxRecDepth 4000
set_option maxHeartbeats 1000000
/-! Q: the operators' rules. -/
namespace Q
open PySem L2

abbrev gm (X : Cx) (cA : Nat → Option Addr) : Gm := ⟨X.prog, X.w, X.K, cA⟩
/-- what an operation on values leaves; the heap's cells may be more -/
def PostO {α β : Type} (G : Gm) (Rep : List Addr → Hp → β → α → Prop) (ι : List Addr) (H : Hp) (r : Option (α × Hh)) (Q : β → Hp → Prop) : Prop :=
  match r with
  | some (a, h') => ∀ b ι' H', Ext ι H ι' H' → Rh G ι' H' h' → Rep ι' H' b a → Q b H'
  | none => False
/-- an operation on two values -/
def rD2 (G : Gm) (f : D → D → Hh → Option (D × Hh)) : R2 := fun x y H Q =>
  ∃ ι h d e, Rh G ι H h ∧ Rv G.K ι H x d ∧ Rv G.K ι H y e ∧ PostO G (Rv G.K) ι H (f d e h) Q
/-- a comparison of two values -/
def rB2 (G : Gm) (f : D → D → Hh → Option Bool) : R2 := fun x y H Q =>
  ∃ ι h d e b, Rh G ι H h ∧ Rv G.K ι H x d ∧ Rv G.K ι H y e ∧ f d e h = some b ∧ Q (.bl b) H

section
variable {X : Cx} {cA : Nat → Option Addr} {pins : List (Addr × Obj)} {σ : L2.St} {ι : List Addr} {H : Hp} {h : Hh} {s : Shared}
theorem PostO.here {α β : Type} {G : Gm} {Rep : List Addr → Hp → β → α → Prop} {a : α} {b : β} {Q : β → Hp → Prop} (p : PostO G Rep ι H (some (a, h)) Q) (rh : Rh G ι H h) (r : Rep ι H b a) : Q b H := p b ι H .refl rh r
/-- a new tuple -/
theorem PostO.tup {G : Gm} {vs : List V} {ds : List D} {Q : V → Hp → Prop} (p : PostO G (Rv G.K) ι H (some (.tup ds, h)) Q) (rh : Rh G ι H h) (r : All2 (Rv G.K ι H) vs ds) :
    ∀ a, H a = none → Q (.ref a) (upd H a (.tup vs)) := fun a ha =>
  p _ ι _ (ext_tup ha) (rh.tup ha) (.tupA (SqT.of upd_same) (ext2 (ext_tup ha) r))
/-- a new list -/
theorem PostO.lst {G : Gm} {vs : List V} {ds : List D} {Q : V → Hp → Prop} (p : PostO G (Rv G.K) ι H (some (newc (.lst ds) h)) Q) (rh : Rh G ι H h) (r : All2 (Rv G.K ι H) vs ds) :
    ∀ a, H a = none → Q (.ref a) (upd H a (.lst vs)) := fun a ha =>
  p _ (ι ++ [a]) _ (ext_cell ha) (rh.new ha ⟨vs, upd_same, ext2 (ext_cell ha) r⟩) (rh.newref)
theorem OpR.or {f : Value → Value → Sem Value} {r r' : R2} (a : OpR X f r) (b : OpR X f r') : OpR X f (fun x y H Q => r x y H Q ∨ r' x y H Q) :=
  fun pins s σ H x y v u Q I rx ry q => q.elim (a pins s σ H x y v u Q I rx ry) (b pins s σ H x y v u Q I rx ry)
theorem maxLen_line : maxLen ≤ sizeLine := by rw [sizeLine_eq]; decide
theorem repL_eq {α : Type} (n : Nat) (xs : List α) : repL n xs = (List.replicate n xs).flatten := by
  induction n with
  | zero => rfl
  | succ n ih => rw [repL, ih, List.replicate_succ, List.flatten_cons]
def opc : Op → Operator
  | .add => .Add
  | .sub => .Sub
  | .mul => .Mult
  | .mod => .Mod
  | .fdiv => .FloorDiv
  | .pow => .Pow
  | .bor => .BitOr
  | .band => .BitAnd
  | .shl => .LShift
  | .shr => .RShift
theorem opI_ok (o : Op) : OpR X (binaryOp (opc o)) (fun x y H Q => ∃ i j k, x = .int i ∧ y = .int j ∧ opI o i j = some k ∧ Q (.int k) H) := by
  intro pins s σ H x y v u Q I rx ry hq
  obtain ⟨i, j, k, rfl, rfl, e, q⟩ := hq
  cases o with
  | add => cases e; exact op_add pins s σ H _ _ v u Q I rx ry ⟨i, j, rfl, rfl, q⟩
  | sub => cases e; exact op_sub pins s σ H _ _ v u Q I rx ry ⟨i, j, rfl, rfl, q⟩
  | mul =>
    simp only [opI, small, Bool.or_eq_true, decide_eq_true_eq] at e
    split at e
    · rename_i c
      cases e
      exact op_mul pins s σ H _ _ v u Q I rx ry ⟨i, j, rfl, rfl, c, q⟩
    · cases e
  | mod =>
    simp only [opI] at e
    split at e
    · cases e
    · rename_i c
      cases e
      exact op_modN pins s σ H _ _ v u Q I rx ry ⟨i, j, rfl, rfl, c, q⟩
  | fdiv =>
    simp only [opI] at e
    split at e
    · cases e
    · rename_i c
      split at e
      · rename_i c2
        cases e
        exact op_fdivN pins s σ H _ _ v u Q I rx ry ⟨i, j, rfl, rfl, ⟨c, c2⟩, q⟩
      · cases e
  | pow =>
    simp only [opI] at e
    split at e
    · rename_i c
      cases e
      exact op_pow pins s σ H _ _ v u Q I rx ry ⟨i, j, rfl, rfl, ⟨c.1, Int.le_trans c.2.1 (by decide), c.2.2⟩, q⟩
    · cases e
  | bor => cases e; exact op_or pins s σ H _ _ v u Q I rx ry ⟨i, j, rfl, rfl, q⟩
  | band => cases e; exact op_and pins s σ H _ _ v u Q I rx ry ⟨i, j, rfl, rfl, q⟩
  | shl =>
    simp only [opI] at e
    split at e
    · rename_i c
      cases e
      exact op_shl pins s σ H _ _ v u Q I rx ry ⟨i, j, rfl, rfl, ⟨c.1, Int.le_trans c.2.1 (by decide), c.2.2⟩, q⟩
    · cases e
  | shr =>
    simp only [opI] at e
    split at e
    · rename_i c
      cases e
      exact op_shr pins s σ H _ _ v u Q I rx ry ⟨i, j, rfl, rfl, c, q⟩
    · cases e
theorem opD_ok (o : Op) : OpR X (binaryOp (opc o)) (rD2 (gm X cA) (opD o)) := by
  intro pins s σ H x y v u Q I rx ry hq
  obtain ⟨ι, h, d, e, rh, rd, re, p⟩ := hq
  unfold opD at p
  split at p
  · rename_i i j
    cases rd.of_int; cases re.of_int
    cases hk : opI o i j with
    | none => rw [hk] at p; exact p.elim
    | some k =>
      rw [hk] at p
      exact opI_ok o pins s σ H _ _ v u Q I rx ry ⟨i, j, k, rfl, rfl, hk, p.here rh (.int k)⟩
  · rename_i z w'
    cases rd.of_str; cases re.of_str
    split at p
    · rename_i c
      obtain ⟨rfl, hz⟩ := c
      exact op_add_str pins s σ H _ _ v u Q I rx ry ⟨z, w', rfl, rfl, Nat.le_trans hz maxLen_line, p.here rh (.str _)⟩
    · exact p.elim
  · rename_i xs ys
    obtain ⟨a, vs, rfl, ha, ra⟩ := rd.of_tup
    obtain ⟨b, ws, rfl, hb, rb⟩ := re.of_tup
    split at p
    · rename_i c
      obtain ⟨rfl, hz⟩ := c
      have la := ra.len
      have lb := rb.len
      refine op_catA pins s σ H _ _ v u Q I rx ry ⟨a, b, vs, ws, rfl, rfl, ha, hb, by have := maxLen_line; omega, fun e => ?_, fun _ e => ?_, fun _ _ => p.tup rh (ra.app rb)⟩
      · subst e
        cases ra
        exact p.here rh (.tupA hb rb)
      · subst e
        cases rb
        exact p.here rh (.tupA ha (by rw [List.append_nil]; exact ra))
    · exact p.elim
  · rename_i xs n
    obtain ⟨a, vs, rfl, ha, ra⟩ := rd.of_tup
    cases re.of_int
    split at p
    · rename_i c
      obtain ⟨rfl, h1, h2, h3, h4⟩ := c
      have la := ra.len
      refine op_repT pins s σ H _ _ v u Q I rx ry ⟨a, n, vs, rfl, rfl, ha, fun e => h3 ?_, h1, h2, by omega, ?_⟩
      · subst e; cases ra; rfl
      · rw [← repL_eq]
        exact p.tup rh (ra.rep _)
    · exact p.elim
  · rename_i i n
    cases re.of_int
    split at p
    · rename_i xs hc
      obtain ⟨a, rfl, hi, vs, ha, ra⟩ := rh.ref rd hc
      split at p
      · rename_i c
        obtain ⟨rfl, h1, h2, h3⟩ := c
        have la := ra.len
        refine op_rep pins s σ H _ _ v u Q I rx ry ⟨a, n, vs, rfl, rfl, ha, by omega, by omega, by rw [la]; exact Nat.le_trans h3 maxLen_line, ?_⟩
        rw [← repL_eq]
        exact p.lst rh (ra.rep _)
      · exact p.elim
    · exact p.elim
  · rename_i i j
    split at p
    · rename_i xs ys hc hc2
      obtain ⟨a, rfl, hi, vs, ha, ra⟩ := rh.ref rd hc
      obtain ⟨b, rfl, hj, ws, hb, rb⟩ := rh.ref re hc2
      split at p
      · rename_i c
        obtain ⟨rfl, h1⟩ := c
        have la := ra.len
        have lb := rb.len
        exact op_cat pins s σ H _ _ v u Q I rx ry ⟨a, b, vs, ws, rfl, rfl, ha, hb, by have := maxLen_line; omega, p.lst rh (ra.app rb)⟩
      · exact p.elim
    · exact p.elim
  · exact p.elim
end
end Q
end
section
set_option autoImplicit false
set_option Elab.async false
set_option linter.all false
set_option maxRecDepth 4000
set_option maxHeartbeats 1000000
/-! Q: comparisons, by the library's data. -/
namespace Q
open PySem L2

section
variable {X : Cx} {cA : Nat → Option Addr} {pins : List (Addr × Obj)} {σ : L2.St} {ι : List Addr} {H : Hp} {h : Hh} {s : Shared}
theorem mapO_all2 {α β : Type} {f : α → Option β} : ∀ {xs : List α} {ys : List β}, mapO f xs = some ys → All2 (fun x y => f x = some y) xs ys
  | [], ys, e => by cases e; exact .nil
  | x :: xs, ys, e => by
    unfold mapO at e
    split at e
    · rename_i y hy
      split at e
      · rename_i l hl
        cases e
        exact .cons hy (mapO_all2 hl)
      · cases e
    · cases e
theorem mapP_all2 {α β : Type} {f : α → Option β} : ∀ {xs : List (α × α)} {ys : List (β × β)}, mapP f xs = some ys → All2 (fun x y => f x.1 = some y.1 ∧ f x.2 = some y.2) xs ys
  | [], ys, e => by cases e; exact .nil
  | (x, x') :: xs, ys, e => by
    unfold mapP at e
    split at e
    · rename_i a b l h1 h2 h3
      cases e
      exact .cons ⟨h1, h2⟩ (mapP_all2 h3)
    · cases e
/-- where the library's table of modules stands: none of ours -/
def Sm (X : Cx) : Prop := ∃ o, X.base.get? sysModules = some o
theorem Sm.ne (sm : Sm X) (I : Inv X pins σ H s) {a : Addr} (ha : H a ≠ none) : a ≠ sysModules := fun e => by
  obtain ⟨o, ho⟩ := sm
  exact ha (e ▸ (I.bs _ _ ho).2)
/-- as: no address of it is the table of modules -/
abbrev Rd1 (h : Heap) (u : Value) (p : PyData) : Prop := ∃ as, Reads h u p as ∧ sysModules ∉ as
theorem reads_all {hp : Heap} : ∀ {us : List Value} {ps : List PyData}, All2 (Rd1 hp) us ps → ∃ as, ReadsAll hp us ps as ∧ sysModules ∉ as
  | _, _, .nil => ⟨[], .nil, by simp⟩
  | _, _, .cons ⟨as, r, n⟩ t => by
    obtain ⟨bs, r2, n2⟩ := reads_all t
    exact ⟨as ++ bs, .cons r r2, by simp [n, n2]⟩
/-- values and their codes -/
theorem all_reads {f : D → Option PyData} {hp : Heap} {R : V → D → Prop} (hf : ∀ v d p u, R v d → f d = some p → RelV v u → Rd1 hp u p) :
    ∀ {vs : List V} {ds : List D} {us : List Value} {ps : List PyData}, All2 R vs ds → All2 (fun x y => f x = some y) ds ps → Vals vs us → All2 (Rd1 hp) us ps
  | _, _, _, _, .nil, .nil, .nil => .nil
  | _, _, _, _, .cons r t, .cons q t', .cons z t'' => .cons (hf _ _ _ _ r q z) (all_reads hf t t' t'')
theorem rv_flat {K : W.Frag} {k : Key} {v : Value} (h : keyIs k v = true) : Rd1 s.heap v (match k with | .inl i => .int i | .inr x => .str x) := by
  rcases keyIs_shape h with ⟨i, t, rfl, rfl⟩ | ⟨x, t, rfl, rfl⟩
  · exact ⟨[], .int i t, by simp⟩
  · exact ⟨[], .str x t, by simp⟩
theorem dict_reads {f : D → Option PyData} {K : W.Frag} (hf : ∀ v d p u, Rv K ι H v d → f d = some p → RelV v u → Rd1 s.heap u p) (fi : ∀ i, f (.int i) = some (.int i)) (fs : ∀ x, f (.str x) = some (.str x)) {P : Program} {w : World} :
    ∀ {ks : List (Key × V)} {kvs : List (D × D)} {ps : List (PyData × PyData)} {vs : List (Key × Value)} {es : List DictEntry}, All2 (Rk K ι H) ks kvs → All2 (fun x y => f x.1 = some y.1 ∧ f x.2 = some y.2) kvs ps → KV ks vs →
      Pairs (mixKind P w) es vs → All2 (Rd1 s.heap) (es.map (·.key)) (ps.map (·.1)) ∧ All2 (Rd1 s.heap) (es.map (·.val)) (ps.map (·.2))
  | _, _, _, _, _, .nil, .nil, .nil, .nil => ⟨.nil, .nil⟩
  | _, _, _, _, _, .cons r t, .cons q t', .cons z t'', .cons h1 h2 t3 => by
    obtain ⟨i1, i2⟩ := dict_reads hf fi fs t t' t'' t3
    obtain ⟨r1, r2⟩ := r
    obtain ⟨q1, q2⟩ := q
    obtain ⟨z1, z2⟩ := z
    refine ⟨.cons ?_ i1, .cons ?_ i2⟩
    · rw [← z1] at h1
      rcases keyIs_shape h1 with ⟨i, tk, e, e2⟩ | ⟨x, tk, e, e2⟩
      · rw [e] at r1
        rw [← r1] at q1
        have q1 : f (.int i) = some _ := q1
        rw [fi] at q1
        dsimp only
        rw [e2, ← Option.some.inj q1]
        exact ⟨[], .int i tk, by simp⟩
      · rw [e] at r1
        rw [← r1] at q1
        have q1 : f (.str x) = some _ := q1
        rw [fs] at q1
        dsimp only
        rw [e2, ← Option.some.inj q1]
        exact ⟨[], .str x tk, by simp⟩
    · dsimp only
      rw [h2]
      exact hf _ _ _ _ r2 q2 z2
theorem dkt_reads {f : D → Option PyData} {K : W.Frag} (hf : ∀ v d p u, Rv K ι H v d → f d = some p → RelV v u → Rd1 s.heap u p) {P : Program} {w : World} :
    ∀ {xs : List (NestedKey × Addr × Value)} {kvs : List (D × D)} {ps : List (PyData × PyData)}, All2 (Rt K ι H) xs kvs → All2 (fun x y => f x.1 = some y.1 ∧ f x.2 = some y.2) kvs ps →
      All2 (Rd1 s.heap) ((xs.map (entryOfKey (nestedKind P w))).map (·.key)) (ps.map (·.1)) ∧ All2 (Rd1 s.heap) ((xs.map (entryOfKey (nestedKind P w))).map (·.val)) (ps.map (·.2))
  | _, _, _, .nil, .nil => ⟨.nil, .nil⟩
  | _, _, _, .cons r t, .cons q t' => by
    obtain ⟨i1, i2⟩ := dkt_reads hf t t'
    obtain ⟨_, _, r1, v, r2, r3⟩ := r
    exact ⟨.cons (hf _ _ _ _ r1 q.1 rfl) i1, .cons (hf _ _ _ _ r3 q.2 r2) i2⟩
theorem py_reads (sm : Sm X) (I : Inv X pins σ H s) (rh : Rh (gm X cA) ι H h) : ∀ (n : Nat) (v : V) (d : D) (p : PyData) (u : Value), Rv X.K ι H v d → toPy h n d = some p → RelV v u → Rd1 s.heap u p := by
  intro n
  induction n with
  | zero =>
    intro v d p u r e ru
    cases d with
    | non => cases e; cases r; cases ru; exact ⟨[], .none, by simp⟩
    | bl b => cases e; cases r; cases ru; exact ⟨[], .bool b, by simp⟩
    | int i => cases e; cases r; obtain ⟨t, rfl⟩ := ru; exact ⟨[], .int i t, by simp⟩
    | str x => cases e; cases r; obtain ⟨t, rfl⟩ := ru; exact ⟨[], .str x t, by simp⟩
    | tup xs => cases e
    | ref i => cases e
  | succ n ih =>
    intro v d p u r e ru
    cases d with
    | non => cases e; cases r; cases ru; exact ⟨[], .none, by simp⟩
    | bl b => cases e; cases r; cases ru; exact ⟨[], .bool b, by simp⟩
    | int i => cases e; cases r; obtain ⟨t, rfl⟩ := ru; exact ⟨[], .int i t, by simp⟩
    | str x => cases e; cases r; obtain ⟨t, rfl⟩ := ru; exact ⟨[], .str x t, by simp⟩
    | tup xs =>
      obtain ⟨a, vs, rfl, ha, ra⟩ := r.of_tup
      cases ru
      simp only [toPy] at e
      cases em : mapO (toPy h n) xs with
      | none => rw [em] at e; cases e
      | some ps =>
        rw [em] at e
        cases e
        obtain ⟨its, rv, ⟨o, ho, hc, m, hd⟩, _⟩ := I.tuple ha
        obtain ⟨as, hr, ns⟩ := reads_all (all_reads (fun v d p u r e ru => ih v d p u r e ru) ra (mapO_all2 em) rv)
        exact ⟨as, .tuple ho hc hd hr, ns⟩
    | ref i =>
      simp only [toPy] at e
      split at e
      · rename_i xs hc
        obtain ⟨a, rfl, hi, vs, ha, ra⟩ := rh.ref r hc
        cases ru
        cases em : mapO (toPy h n) xs with
        | none => rw [em] at e; cases e
        | some ps =>
          rw [em] at e
          cases e
          obtain ⟨its, rv, ⟨o, m, ho, hcl, _, hd⟩, _⟩ := I.list (SqL.of ha)
          obtain ⟨as, hr, ns⟩ := reads_all (all_reads (fun v d p u r e ru => ih v d p u r e ru) ra (mapO_all2 em) rv)
          refine ⟨a :: as, .list ho hcl hd hr, ?_⟩
          have ne := sm.ne I (a := a) (by rw [ha]; nofun)
          simp only [List.mem_cons, not_or]
          exact ⟨fun z => ne z.symm, ns⟩
      · rename_i xs hc
        obtain ⟨a, rfl, hi, o', vs, ha, ra⟩ := rh.ref r hc
        cases ru
        cases em : mapO (toPy h n) xs with
        | none => rw [em] at e; cases e
        | some ps =>
          rw [em] at e
          cases e
          obtain ⟨its, rv, ⟨o, m, ho, hcl, _, hd⟩, _⟩ := I.list (show SqL X.K H a vs from .inl (.inr ⟨o', ha⟩))
          obtain ⟨as, hr, ns⟩ := reads_all (all_reads (fun v d p u r e ru => ih v d p u r e ru) ra (mapO_all2 em) rv)
          refine ⟨a :: as, .list ho hcl hd hr, ?_⟩
          have ne := sm.ne I (a := a) (by rw [ha]; nofun)
          simp only [List.mem_cons, not_or]
          exact ⟨fun z => ne z.symm, ns⟩
      · rename_i kvs hc
        obtain ⟨a, rfl, hi, rc⟩ := rh.ref r hc
        cases ru
        cases em : mapP (toPy h n) kvs with
        | none => rw [em] at e; cases e
        | some ps =>
          rw [em] at e
          cases e
          have live : H a ≠ none := rc.live
          have ne := sm.ne I (a := a) live
          have fin : ∀ {o : Obj} {es : Array DictEntry} {ep : Nat}, s.heap.get? a = some o → o.ExactDict → o.data = .dict es ep → All2 (Rd1 s.heap) (es.toList.map (·.key)) (ps.map (·.1)) → All2 (Rd1 s.heap) (es.toList.map (·.val)) (ps.map (·.2)) → Rd1 s.heap (.ref a) (.dict ps) := by
            intro o es ep h1 h2 h3 k1 k2
            obtain ⟨as, r1, n1⟩ := reads_all k1
            obtain ⟨bs, r2, n2⟩ := reads_all k2
            refine ⟨a :: as ++ bs, .dict h1 h2.1 h3 r1 r2, ?_⟩
            simp only [List.cons_append, List.mem_cons, List.mem_append, not_or]
            exact ⟨fun z => ne z.symm, n1, n2⟩
          rcases rc with ⟨ks, ha, ra⟩ | ⟨_, _, _, xs, ha, ra, _⟩
          · obtain ⟨_, _, vs, rel, o, es, ep, h1, h2, h3, _, hp, _⟩ := dk_of I.hok ha
            have nz : ∀ i, toPy h n (.int i) = some (.int i) := fun i => by cases n <;> rfl
            have nz2 : ∀ x, toPy h n (.str x) = some (.str x) := fun i => by cases n <;> rfl
            obtain ⟨k1, k2⟩ := dict_reads (fun v d p u r e ru => ih v d p u r e ru) nz nz2 ra (mapP_all2 em) rel hp
            exact fin h1 h2 h3 k1 k2
          · obtain ⟨⟨o, es, ep, h1, h2, h3, h4⟩, _, _⟩ := (show ObjOk X.prog X.w H s.heap a (DkO (gm X cA) a xs) from I.hok a _ ha)
            obtain ⟨k1, k2⟩ := dkt_reads (P := X.prog) (w := X.w) (fun v d p u r e ru => ih v d p u r e ru) ra (mapP_all2 em)
            rw [← h4] at k1 k2
            exact fin h1 h2 h3 k1 k2
      · cases e
end
end Q
end
section
set_option autoImplicit false
set_option Elab.async false
set_option linter.all false
set_option maxRecDepth 4000
set_option maxHeartbeats 1000000
/-! Q: dicts. -/
namespace Q
open PySem L2

mutual
theorem kd_inj : ∀ (d e : D) (k : NestedKey), d.kd = some k → e.kd = some k → d = e
  | .non, e, k, h1, h2 => by
    cases e with
    | non => rfl
    | int i => simp only [D.kd] at h1 h2; rw [← h1] at h2; cases h2
    | str i => simp only [D.kd] at h1 h2; rw [← h1] at h2; cases h2
    | tup ys => simp only [D.kd] at h1 h2; split at h2 <;> rw [← h1] at h2 <;> cases h2
    | bl _ => simp [D.kd] at h2
    | ref _ => simp [D.kd] at h2
  | .int i, e, k, h1, h2 => by
    cases e with
    | non => simp only [D.kd] at h1 h2; rw [← h1] at h2; cases h2
    | int j => simp only [D.kd] at h1 h2; rw [← h1] at h2; cases h2; rfl
    | str i => simp only [D.kd] at h1 h2; rw [← h1] at h2; cases h2
    | tup ys => simp only [D.kd] at h1 h2; split at h2 <;> rw [← h1] at h2 <;> cases h2
    | bl _ => simp [D.kd] at h2
    | ref _ => simp [D.kd] at h2
  | .str x, e, k, h1, h2 => by
    cases e with
    | non => simp only [D.kd] at h1 h2; rw [← h1] at h2; cases h2
    | int j => simp only [D.kd] at h1 h2; rw [← h1] at h2; cases h2
    | str i => simp only [D.kd] at h1 h2; rw [← h1] at h2; cases h2; rfl
    | tup ys => simp only [D.kd] at h1 h2; split at h2 <;> rw [← h1] at h2 <;> cases h2
    | bl _ => simp [D.kd] at h2
    | ref _ => simp [D.kd] at h2
  | .tup xs, e, k, h1, h2 => by
    simp only [D.kd] at h1
    split at h1
    · rename_i ks hx
      cases h1
      cases e with
      | non => simp [D.kd] at h2
      | int j => simp [D.kd] at h2
      | str i => simp [D.kd] at h2
      | tup ys =>
        simp only [D.kd] at h2
        split at h2
        · rename_i ls hy
          cases h2
          rw [kds_inj xs ys ks hx hy]
        · cases h2
      | bl _ => simp [D.kd] at h2
      | ref _ => simp [D.kd] at h2
    · cases h1
  | .bl _, _, _, h1, _ => by simp [D.kd] at h1
  | .ref _, _, _, h1, _ => by simp [D.kd] at h1
theorem kds_inj : ∀ (d e : List D) (k : List NestedKey), D.kds d = some k → D.kds e = some k → d = e
  | [], e, k, h1, h2 => by
    simp only [D.kds] at h1
    cases h1
    cases e with
    | nil => rfl
    | cons y ys => simp only [D.kds] at h2; split at h2 <;> cases h2
  | x :: xs, e, k, h1, h2 => by
    simp only [D.kds] at h1
    split at h1
    · rename_i a as ha has
      cases h1
      cases e with
      | nil => simp [D.kds] at h2
      | cons y ys =>
        simp only [D.kds] at h2
        split at h2
        · rename_i b bs hb hbs
          cases h2
          rw [kd_inj x y a ha hb, kds_inj xs ys as has hbs]
        · cases h2
    · cases h1
end
section
variable {X : Cx} {cA : Nat → Option Addr} {pins : List (Addr × Obj)} {σ : L2.St} {ι : List Addr} {H : Hp} {h : Hh} {s : Shared}
mutual
theorem nk_is (I : Inv X pins σ H s) : ∀ (d : D) (v : V) (k : NestedKey) (u : Value), Rv X.K ι H v d → d.kd = some k → RelV v u → NestedIs s.heap k u
  | .non, _, _, _, r, e, ru => by cases e; cases r; cases ru; exact .none
  | .int i, _, _, _, r, e, ru => by cases e; cases r; obtain ⟨t, rfl⟩ := ru; exact .int i t
  | .str x, _, _, _, r, e, ru => by cases e; cases r; obtain ⟨t, rfl⟩ := ru; exact .text x t
  | .tup xs, _, _, _, r, e, ru => by
    obtain ⟨a, vs, rfl, ha, ra⟩ := r.of_tup
    cases ru
    simp only [D.kd] at e
    split at e
    · rename_i ks hk
      cases e
      obtain ⟨its, rv, ⟨o, ho, hc, m, hd⟩, _⟩ := I.tuple ha
      exact .tup ho hc hd (nk_all I xs vs ks its (.of ra) hk rv)
    · cases e
  | .bl _, _, _, _, _, e, _ => by simp [D.kd] at e
  | .ref _, _, _, _, _, e, _ => by simp [D.kd] at e
theorem nk_all (I : Inv X pins σ H s) : ∀ (ds : List D) (vs : List V) (ks : List NestedKey) (us : List Value), Rvs X.K ι H vs ds → D.kds ds = some ks → Vals vs us → NestedAll s.heap ks us
  | [], _, _, _, r, e, ru => by cases r; cases e; cases ru; exact .nil
  | d :: ds, _, _, _, r, e, ru => by
    cases r with
    | cons r1 r2 =>
      cases ru with
      | cons u1 u2 =>
        simp only [D.kds] at e
        split at e
        · rename_i a as ha has
          cases e
          exact .cons (nk_is I d _ _ _ r1 ha u1) (nk_all I ds _ _ _ r2 has u2)
        · cases e
end
theorem isTupK_shape {d : D} (e : isTupK d = true) : ∃ xs k, d = .tup xs ∧ d.kd = some k ∧ k.depth ≤ 8 := by
  cases d with
  | tup xs =>
    simp only [isTupK] at e
    split at e
    · rename_i k hk
      exact ⟨xs, k, rfl, hk, of_decide_eq_true e⟩
    · cases e
  | _ => simp [isTupK] at e
theorem isFlat_shape {d : D} (e : isFlat d = true) : ∃ k, d = keyD k := by
  cases d with
  | int i => exact ⟨.inl i, rfl⟩
  | str x => exact ⟨.inr x, rfl⟩
  | _ => simp [isFlat] at e
theorem flat_not_tup {d : D} (e : isFlat d = true) : isTupK d = false := by
  cases d <;> first | rfl | simp [isFlat] at e
theorem keyD_flat (k : Key) : isFlat (keyD k) = true := by cases k <;> rfl
theorem keyD_inj {j k : Key} (e : keyD j = keyD k) : j = k := by
  cases j with
  | inl i => cases k with
    | inl i' => cases e; rfl
    | inr x => cases e
  | inr x => cases k with
    | inl i' => cases e
    | inr x => cases e; rfl
theorem rv_key {K : W.Frag} {v : V} {k : Key} (r : Rv K ι H v (keyD k)) : v = kV k := by
  cases k with
  | inl i => exact r.of_int
  | inr x => exact r.of_str
theorem kindOk_cases {ks : List D} {k : D} (e : kindOk ks k = true) : (isFlat k = true ∧ ∀ x ∈ ks, isFlat x = true) ∨ (isTupK k = true ∧ ∀ x ∈ ks, isTupK x = true) := by
  simp only [kindOk, Bool.or_eq_true, Bool.and_eq_true, List.all_eq_true] at e
  exact e
/-- a dict that may have flat keys -/
theorem dct_flat {G : Gm} {a : Addr} {kvs : List (D × D)} (rc : Rc G ι H a (.dct kvs)) (e : ∀ x ∈ kvs.map (·.1), isFlat x = true) : ∃ ks, H a = some (.dK ks) ∧ All2 (Rk G.K ι H) ks kvs := by
  rcases rc with q | ⟨_, hne, _, xs, _, ra, _⟩
  · exact q
  · cases ra with
    | nil => exact absurd rfl hne
    | cons r _ =>
      have := flat_not_tup (e _ (List.mem_cons_self))
      dsimp only at this
      rw [r.2.1] at this
      cases this
/-- a dict that may have tuples for keys -/
theorem dct_tup (I : Inv X pins σ H s) {a : Addr} {kvs : List (D × D)} (rc : Rc (gm X cA) ι H a (.dct kvs)) (e : ∀ x ∈ kvs.map (·.1), isTupK x = true) :
    (a == sysModules) = false ∧ ∃ xs, s.heap.DictOfH (nestedKind X.prog X.w) a xs ∧ All2 (Rt X.K ι H) xs kvs ∧ xs.length ≤ maxLen := by
  rcases rc with ⟨ks, ha, ra⟩ | ⟨h0, _, hz, xs, ha, ra, nd⟩
  · cases ra with
    | nil =>
      obtain ⟨_, hs, vs, rel, o, es, ep, h1, h2, h3, h4, h5, h6⟩ := dk_of I.hok ha
      cases rel
      have e0 : es.toList = [] := by cases h : es.toList with
        | nil => rfl
        | cons y ys => rw [h] at h5; cases h5
      exact ⟨hs, [], ⟨o, es, ep, h1, h2, h3, by rw [e0]; rfl, by simp, by simp⟩, .nil, by decide⟩
    | cons r _ =>
      have := e _ (List.mem_cons_self)
      dsimp only at this
      rw [← r.1, flat_not_tup (keyD_flat _)] at this
      cases this
  · obtain ⟨⟨o, es, ep, h1, h2, h3, h4⟩, _, _⟩ := (show ObjOk X.prog X.w H s.heap a (DkO (gm X cA) a xs) from I.hok a _ ha)
    refine ⟨h0, xs, ⟨o, es, ep, h1, h2, h3, h4, fun x hx => ?_, nd⟩, ra, by rw [ra.len]; exact hz⟩
    obtain ⟨i, hi⟩ := List.mem_iff_getElem?.mp hx
    obtain ⟨q, _, z1, z2, z3, _⟩ := ra.getL hi
    obtain ⟨_, k, _, e1, e2⟩ := isTupK_shape z2
    rw [z1] at e1; cases e1
    exact ⟨nk_is I _ _ _ _ z3 z1 rfl, e2⟩
theorem rk_look {K : W.Frag} {k : Key} : ∀ {ks : List (Key × V)} {kvs : List (D × D)}, All2 (Rk K ι H) ks kvs → (lookD (keyD k) kvs = none ∧ valV ks k = none) ∨ ∃ d v, lookD (keyD k) kvs = some d ∧ valV ks k = some v ∧ Rv K ι H v d
  | _, _, .nil => .inl ⟨rfl, rfl⟩
  | _, _, .cons (a := p) (b := q) r t => by
    by_cases e : p.1 = k
    · refine .inr ⟨q.2, p.2, ?_, valV_pos e, r.2⟩
      obtain ⟨q1, q2⟩ := q
      have : q1 = keyD k := by rw [← e]; exact r.1.symm
      simp [lookD, this]
    · have hne : ¬ q.1 = keyD k := fun z => e (keyD_inj (r.1.trans z))
      obtain ⟨q1, q2⟩ := q
      rcases rk_look (k := k) t with ⟨h1, h2⟩ | ⟨d, v, h1, h2, h3⟩
      · exact .inl ⟨by simp only [lookD]; rw [if_neg hne]; exact h1, by rw [valV_neg e]; exact h2⟩
      · exact .inr ⟨d, v, by simp only [lookD]; rw [if_neg hne]; exact h1, by rw [valV_neg e]; exact h2, h3⟩
theorem atKey_nil {k : NestedKey} : atKey ([] : List (NestedKey × Addr × Value)) k = none := rfl
theorem atKey_pos {p : NestedKey × Addr × Value} {r : List (NestedKey × Addr × Value)} {k : NestedKey} (e : p.1 = k) : atKey (p :: r) k = some p.2 := by simp [atKey, List.find?_cons, e]
theorem atKey_neg {p : NestedKey × Addr × Value} {r : List (NestedKey × Addr × Value)} {k : NestedKey} (e : ¬ p.1 = k) : atKey (p :: r) k = atKey r k := by simp [atKey, List.find?_cons, e]
theorem rt_look {K : W.Frag} {k : D} {nk : NestedKey} (hk : k.kd = some nk) : ∀ {xs : List (NestedKey × Addr × Value)} {kvs : List (D × D)}, All2 (Rt K ι H) xs kvs →
    (lookD k kvs = none ∧ atKey xs nk = none) ∨ ∃ d p v, lookD k kvs = some d ∧ atKey xs nk = some p ∧ RelV v p.2 ∧ Rv K ι H v d
  | _, _, .nil => .inl ⟨rfl, rfl⟩
  | _, _, .cons (a := p) (b := q) r t => by
    obtain ⟨r1, _, _, v, r3, r4⟩ := r
    obtain ⟨q1, q2⟩ := q
    by_cases e : p.1 = nk
    · refine .inr ⟨q2, p.2, v, ?_, atKey_pos e, r3, r4⟩
      have : q1 = k := kd_inj _ _ _ r1 (by rw [e]; exact hk)
      simp [lookD, this]
    · have hne : ¬ q1 = k := fun z => e (by
        have r1 : q1.kd = some p.1 := r1
        rw [z, hk] at r1
        exact (Option.some.inj r1).symm)
      rcases rt_look hk t with ⟨h1, h2⟩ | ⟨d, p', v, h1, h2, h3⟩
      · exact .inl ⟨by simp only [lookD]; rw [if_neg hne]; exact h1, by rw [atKey_neg e]; exact h2⟩
      · exact .inr ⟨d, p', v, by simp only [lookD]; rw [if_neg hne]; exact h1, by rw [atKey_neg e]; exact h2, h3⟩
theorem putK_neg {p : Key × V} {r : List (Key × V)} {k : Key} {v : V} (e : ¬ p.1 = k) : L2.putK (p :: r) k v = p :: L2.putK r k v := by
  unfold L2.putK
  simp only [List.any_cons, e, decide_false, Bool.false_or, List.map_cons, if_false]
  split <;> rfl
theorem putK_pos {p : Key × V} {r : List (Key × V)} {k : Key} {v : V} (e : p.1 = k) (n : k ∉ r.map (·.1)) : L2.putK (p :: r) k v = (p.1, v) :: r := by
  unfold L2.putK
  simp only [List.any_cons, e, decide_true, Bool.true_or, if_true, List.map_cons]
  congr 1
  induction r with
  | nil => rfl
  | cons q r ih =>
    simp only [List.map_cons, List.mem_cons, not_or] at n ⊢
    rw [if_neg (fun z => n.1 z.symm), ih n.2]
theorem rk_put {K : W.Frag} {k : Key} {v : V} {d : D} (rv : Rv K ι H v d) : ∀ {ks : List (Key × V)} {kvs : List (D × D)}, All2 (Rk K ι H) ks kvs → (ks.map (·.1)).Nodup → All2 (Rk K ι H) (L2.putK ks k v) (putD (keyD k) d kvs)
  | _, _, .nil, _ => .cons ⟨rfl, rv⟩ .nil
  | _, _, .cons (a := p) (b := q) r t, n => by
    rw [List.map_cons, List.nodup_cons] at n
    obtain ⟨q1, q2⟩ := q
    by_cases e : p.1 = k
    · rw [putK_pos e (by rw [← e]; exact n.1)]
      have : q1 = keyD k := by rw [← e]; exact r.1.symm
      simp only [putD, this, if_true]
      exact .cons ⟨by rw [e], rv⟩ t
    · rw [putK_neg e]
      have hne : ¬ q1 = keyD k := fun z => e (keyD_inj (r.1.trans z))
      simp only [putD]
      rw [if_neg hne]
      exact .cons r (rk_put rv t n.2)
theorem storedH_neg {p : NestedKey × Addr × Value} {r : List (NestedKey × Addr × Value)} {k : NestedKey} {b : Addr} {v : Value} (e : ¬ p.1 = k) : storedH (p :: r) k b v = p :: storedH r k b v := by
  unfold storedH
  rw [atKey_neg e]
  split
  · rw [List.map_cons]; congr 1; unfold putAt; rw [if_neg e]
  · rfl
theorem storedH_pos {p : NestedKey × Addr × Value} {r : List (NestedKey × Addr × Value)} {k : NestedKey} {b : Addr} {v : Value} (e : p.1 = k) (n : k ∉ r.map (·.1)) : storedH (p :: r) k b v = (p.1, p.2.1, v) :: r := by
  unfold storedH
  rw [atKey_pos e]
  simp only [Option.isSome_some, if_true, List.map_cons]
  rw [map_putAt_of_not_mem r k v n]
  unfold putAt
  rw [if_pos e]
theorem rt_put {K : W.Frag} {k : D} {nk : NestedKey} (hk : k.kd = some nk) (ht : isTupK k = true) {b : Addr} {v : V} {u : Value} {d : D} (rb : Rv K ι H (.ref b) k) (ru : RelV v u) (rv : Rv K ι H v d) :
    ∀ {xs : List (NestedKey × Addr × Value)} {kvs : List (D × D)}, All2 (Rt K ι H) xs kvs → (xs.map (·.1)).Nodup → All2 (Rt K ι H) (storedH xs nk b u) (putD k d kvs)
  | _, _, .nil, _ => .cons ⟨hk, ht, rb, v, ru, rv⟩ .nil
  | _, _, .cons (a := p) (b := q) r t, n => by
    rw [List.map_cons, List.nodup_cons] at n
    obtain ⟨q1, q2⟩ := q
    obtain ⟨r1, r2, r3, v', r4, r5⟩ := r
    have r1 : q1.kd = some p.1 := r1
    by_cases e : p.1 = nk
    · rw [storedH_pos e (by rw [← e]; exact n.1)]
      have : q1 = k := kd_inj _ _ _ r1 (by rw [e]; exact hk)
      simp only [putD, this, if_true]
      refine .cons ⟨by rw [← this]; exact r1, ht, by rw [← this]; exact r3, v, ru, rv⟩ t
    · rw [storedH_neg e]
      have hne : ¬ q1 = k := fun z => e (by rw [z, hk] at r1; exact (Option.some.inj r1).symm)
      simp only [putD]
      rw [if_neg hne]
      exact .cons ⟨r1, r2, r3, v', r4, r5⟩ (rt_put hk ht rb ru rv t n.2)
theorem storedH_nodup {xs : List (NestedKey × Addr × Value)} {k : NestedKey} {b : Addr} {u : Value} : (xs.map (·.1)).Nodup → ((storedH xs k b u).map (·.1)).Nodup := by
  intro n
  unfold storedH
  split
  · rw [keys_map_putAt]; exact n
  · rename_i hn
    rw [List.map_append, List.nodup_append]
    refine ⟨n, by simp, fun x hx y hy z => ?_⟩
    simp at hy
    subst hy
    subst z
    obtain ⟨p, hp, e⟩ := List.mem_map.mp hx
    have : ∃ y ∈ xs, decide (y.1 = x) = true := ⟨p, hp, decide_eq_true e⟩
    apply hn
    unfold atKey
    rw [Option.isSome_map, List.find?_isSome]
    exact this
end
end Q
end
section
set_option autoImplicit false
set_option Elab.async false
set_option linter.all false
set_option maxRecDepth 4000
set_option maxHeartbeats 1000000
/-! Q: comparisons; what is asked of and stored in a dict. -/
namespace Q
open PySem L2

section
variable {X : Cx} {cA : Nat → Option Addr} {pins : List (Addr × Obj)} {σ : L2.St} {ι : List Addr} {H : Hp} {h : Hh} {s : Shared} {A : Around} {E : Value → Shared → Prop}
def cpc : Cp → CmpOp
  | .eq => .Eq
  | .ne => .NotEq
  | .lt => .Lt
  | .le => .LtE
  | .gt => .Gt
  | .ge => .GtE
  | .inn => .In
  | .notin => .NotIn
  | .isN => .Is
  | .isntN => .IsNot

/-! ### dicts -/
theorem kv_keys : ∀ {ks : List (Key × V)} {vs : List (Key × Value)}, KV ks vs → ks.map (·.1) = vs.map (·.1)
  | _, _, .nil => rfl
  | _, _, .cons r t => by rw [List.map_cons, List.map_cons, r.1, kv_keys t]
theorem dct_in (I : Inv X pins σ H s) (hu : A.units + 40 < cLine) {a : Addr} {kvs : List (D × D)} {k : D} {kv : V} {ku : Value} (rc : Rc (gm X cA) ι H a (.dct kvs)) (rk : Rv X.K ι H kv k) (ru : RelV kv ku) (ok : kindOk (kvs.map (·.1)) k = true)
    {Q : Value → Shared → Prop} (q : ∀ s', Inv X pins σ H s' → Q (.bool (lookD k kvs).isSome) s') : wpAny (model X.prog X.w) A (compareOp .In ku (.ref a)) Q E s := by
  rcases kindOk_cases ok with ⟨hk, hks⟩ | ⟨hk, hks⟩
  · obtain ⟨key, rfl⟩ := isFlat_shape hk
    obtain ⟨ks, ha, ra⟩ := dct_flat rc hks
    rw [rv_key rk] at ru
    refine d_in (by omega) I (DGet.k (k := key) ha) ru fun s' I' => ?_
    have q' := q s' I'
    rcases rk_look (k := key) ra with ⟨h1, h2⟩ | ⟨d, v, h1, h2, _⟩
    · rw [h1] at q'; rw [h2]; exact q'
    · rw [h1] at q'; rw [h2]; exact q'
  · obtain ⟨xs, nk, rfl, hn, hd⟩ := isTupK_shape hk
    obtain ⟨h0, es, hD, ra, hz⟩ := dct_tup I rc hks
    obtain ⟨b, vs, rfl, hb, _⟩ := id rk.of_tup
    cases ru
    refine wpAny_in_heap (knd := nestedKind X.prog X.w) (by show A.units + 1 + 8 < cLine; omega) ⟨nk_is I _ _ _ _ rk hn rfl, hd⟩ h0 hD ?_
    have q' := q { s with toks := s.toks + (nestedKind X.prog X.w).draws nk } (I.tok _)
    rcases rt_look hn ra with ⟨h1, h2⟩ | ⟨d, p, v, h1, h2, _⟩
    · rw [h1] at q'; rw [h2]; exact q'
    · rw [h1] at q'; rw [h2]; exact q'
theorem dct_notIn (I : Inv X pins σ H s) (hu : A.units + 40 < cLine) {a : Addr} {kvs : List (D × D)} {k : D} {kv : V} {ku : Value} (rc : Rc (gm X cA) ι H a (.dct kvs)) (rk : Rv X.K ι H kv k) (ru : RelV kv ku) (ok : kindOk (kvs.map (·.1)) k = true)
    {Q : Value → Shared → Prop} (q : ∀ s', Inv X pins σ H s' → Q (.bool (!(lookD k kvs).isSome)) s') : wpAny (model X.prog X.w) A (compareOp .NotIn ku (.ref a)) Q E s := by
  rcases kindOk_cases ok with ⟨hk, hks⟩ | ⟨hk, hks⟩
  · obtain ⟨key, rfl⟩ := isFlat_shape hk
    obtain ⟨ks, ha, ra⟩ := dct_flat rc hks
    rw [rv_key rk] at ru
    refine d_notIn (by omega) I (DGet.k (k := key) ha) ru fun s' I' => ?_
    have q' := q s' I'
    rcases rk_look (k := key) ra with ⟨h1, h2⟩ | ⟨d, v, h1, h2, _⟩
    · rw [h1] at q'; rw [h2]; exact q'
    · rw [h1] at q'; rw [h2]; exact q'
  · obtain ⟨xs, nk, rfl, hn, hd⟩ := isTupK_shape hk
    obtain ⟨h0, es, hD, ra, hz⟩ := dct_tup I rc hks
    obtain ⟨b, vs, rfl, hb, _⟩ := id rk.of_tup
    cases ru
    refine notIn_keyed (knd := nestedKind X.prog X.w) (kvs := pairsH es) (by show A.units + 1 + 8 < cLine; omega) ⟨nk_is I _ _ _ _ rk hn rfl, hd⟩ h0 ⟨es, hD, rfl⟩ ?_
    have q' := q { s with toks := s.toks + (nestedKind X.prog X.w).draws nk } (I.tok _)
    rw [valueAt_pairsH]
    rcases rt_look hn ra with ⟨h1, h2⟩ | ⟨d, p, v, h1, h2, _⟩
    · rw [h1] at q'; rw [h2]; exact q'
    · rw [h1] at q'; rw [h2]; exact q'
theorem dct_item (I : Inv X pins σ H s) (hu : A.units + 40 < cLine) {a : Addr} {kvs : List (D × D)} {k d : D} {kv : V} {ku : Value} (rc : Rc (gm X cA) ι H a (.dct kvs)) (rk : Rv X.K ι H kv k) (ru : RelV kv ku) (ok : kindOk (kvs.map (·.1)) k = true)
    (hd0 : lookD k kvs = some d) {Q : Value → Shared → Prop} (q : ∀ v u s', Inv X pins σ H s' → RelV v u → Rv X.K ι H v d → Q u s') : wpAny (model X.prog X.w) A (getItem (.ref a) ku) Q E s := by
  rcases kindOk_cases ok with ⟨hk, hks⟩ | ⟨hk, hks⟩
  · obtain ⟨key, rfl⟩ := isFlat_shape hk
    obtain ⟨ks, ha, ra⟩ := dct_flat rc hks
    rw [rv_key rk] at ru
    rcases rk_look (k := key) ra with ⟨h1, h2⟩ | ⟨d', v, h1, h2, h3⟩
    · rw [h1] at hd0; cases hd0
    · rw [h1] at hd0; cases hd0
      refine d_getItem (by omega) I (y := kV key) (v := v) (.inl ⟨ks, key, .inl ha, rfl, h2.symm⟩) ru fun w' s' I' rw' => q v w' s' I' rw' h3
  · obtain ⟨xs, nk, rfl, hn, hd⟩ := isTupK_shape hk
    obtain ⟨h0, es, hD, ra, hz⟩ := dct_tup I rc hks
    obtain ⟨b, vs, rfl, hb, _⟩ := id rk.of_tup
    cases ru
    rcases rt_look hn ra with ⟨h1, h2⟩ | ⟨d', p, v, h1, h2, h3, h4⟩
    · rw [h1] at hd0; cases hd0
    · rw [h1] at hd0; cases hd0
      exact wpAny_getItem_heap (knd := nestedKind X.prog X.w) (by show A.units + 1 + 8 < cLine; omega) ⟨nk_is I _ _ _ _ rk hn rfl, hd⟩ hD h2 (q v p.2 _ (I.tok _) h3 h4)
/-- the dict at a has been written -/
theorem dkt_write {t' : Nat} {h' : Heap} (I : Inv X pins σ H s) {a : Addr} (ha : Mut (H a)) {xs : List (NestedKey × Addr × Value)} (hD : h'.DictOfH (nestedKind X.prog X.w) a xs) (sb : Heap.SameBut a s.heap h') :
    Inv X pins σ (upd H a (DkO (gm X cA) a xs)) { s with heap := h', toks := t' } := by
  obtain ⟨o, es, ep, h1, h2, h3, h4, _, _⟩ := hD
  refine I.write (x := a) (e := a) ha (.inl rfl) (fun b u hb e => (sb.2 b hb).trans e) ⟨o, h1⟩ ?_
  exact ⟨⟨o, es, ep, h1, h2, h3, h4⟩, ⟨o, h1⟩, fun h1' h2' ⟨o', es', ep', q1, q2, q3, q4⟩ st => ⟨o', es', ep', st _ q1, q2, q3, q4⟩⟩
theorem rc_mut {G : Gm} {a : Addr} {kvs : List (D × D)} (rc : Rc G ι H a (.dct kvs)) : Mut (H a) := by
  rcases rc with ⟨ks, ha, _⟩ | ⟨_, _, _, xs, ha, _, _⟩
  · rw [ha]; trivial
  · rw [ha]; trivial
theorem rc_nofrz {G : Gm} {a : Addr} {kvs : List (D × D)} (rc : Rc G ι H a (.dct kvs)) : ∀ u x, H a ≠ some (.frz u x) := fun u x e => by
  have m := rc_mut rc
  rw [e] at m
  exact m
theorem putD_ne (k v : D) (kvs : List (D × D)) : putD k v kvs ≠ [] := by
  cases kvs with
  | nil => simp [putD]
  | cons p r =>
    obtain ⟨a, b⟩ := p
    simp only [putD]
    split <;> simp
theorem putD_len (k v : D) : ∀ kvs : List (D × D), (putD k v kvs).length ≤ kvs.length + 1
  | [] => by simp [putD]
  | (a, b) :: r => by
    simp only [putD]
    split
    · simp
    · have := putD_len k v r
      simp only [List.length_cons]
      omega
theorem dct_set (I : Inv X pins σ H s) (rh : Rh (gm X cA) ι H h) (hu : A.units + 40 < cLine) {i : Nat} {a : Addr} {kvs : List (D × D)} {k d : D} {kv v : V} {ku u : Value} (hi : ι[i]? = some a) (rc : Rc (gm X cA) ι H a (.dct kvs)) (rk : Rv X.K ι H kv k) (ru : RelV kv ku)
    (rv : Rv X.K ι H v d) (rvu : RelV v u) (ok : kindOk (kvs.map (·.1)) k = true) (hl : kvs.length < maxLen) {Q : Unit → Shared → Prop}
    (q : ∀ s' o, Inv X pins σ (upd H a o) s' → Ext ι H ι (upd H a o) → Rh (gm X cA) ι (upd H a o) (h.set i (.dct (putD k d kvs))) → Q () s') : wpAny (model X.prog X.w) A (setItem (.ref a) ku u) Q E s := by
  have nf := rc_nofrz rc
  have ext : ∀ o, Ext ι H ι (upd H a o) := fun o => ext_set rh (List.mem_of_getElem? hi) nf
  have put : ∀ o, Rc (gm X cA) ι (upd H a o) a (.dct (putD k d kvs)) → Rh (gm X cA) ι (upd H a o) (h.set i (.dct (putD k d kvs))) := fun o r => rh.put hi nf r
  have line := maxLen_line
  rcases kindOk_cases ok with ⟨hk, hks⟩ | ⟨hk, hks⟩
  · obtain ⟨key, rfl⟩ := isFlat_shape hk
    obtain ⟨ks, ha, ra⟩ := dct_flat rc hks
    rw [rv_key rk] at ru
    have nd : (ks.map (·.1)).Nodup := by
      obtain ⟨_, _, vs, rel, o, es, ep, _, _, _, _, _, n⟩ := dk_of I.hok ha
      rw [kv_keys rel]; exact n
    refine d_setItem (by omega) I (DPut.k (k := key) (v := v) ha (by rw [ra.len]; omega)) ru rvu fun s' I' => q s' _ I' (ext _) (put _ (.inl ⟨_, upd_same, ?_⟩))
    exact (rk_put rv ra nd).imp fun _ _ z => ⟨z.1, z.2.ext (ext _)⟩
  · obtain ⟨xs, nk, rfl, hn, hd⟩ := isTupK_shape hk
    obtain ⟨h0, es, hD, ra, hz⟩ := dct_tup I rc hks
    obtain ⟨b, vs, rfl, hb, _⟩ := id rk.of_tup
    cases ru
    refine wpAny_setItem_heap (knd := nestedKind X.prog X.w) (hsz := by omega) (by show A.units + 1 + 8 < cLine; omega) ⟨nk_is I _ _ _ _ rk hn rfl, hd⟩ hD fun h' hD' sb => ?_
    have I' := dkt_write (cA := cA) (t' := s.toks + (nestedKind X.prog X.w).draws nk) I (rc_mut rc) hD' sb
    have nd : (es.map (·.1)).Nodup := by obtain ⟨_, _, _, _, _, _, _, _, n⟩ := hD; exact n
    refine q _ _ I' (ext _) (put _ (.inr ⟨h0, putD_ne _ _ _, by have := putD_len (.tup xs) d kvs; omega, _, upd_same, ?_, storedH_nodup nd⟩))
    exact (rt_put hn hk rk rvu rv ra nd).imp fun _ _ ⟨z1, z2, z3, v, z4, z5⟩ => ⟨z1, z2, z3.ext (ext _), v, z4, z5.ext (ext _)⟩

/-! ### comparisons -/
theorem plain_of {p : PyData} (h : plainD p = true) : p.plain = true := (Bool.and_eq_true_iff.mp h).1
theorem room_plain {A : Around} {p q : PyData} (h : plainD p = true) (hu : A.units + 64 < cLine) : A.units + min p.depth q.depth < cLine := by
  have h1 := of_decide_eq_true (Bool.and_eq_true_iff.mp h).2
  omega
theorem room_inP {A : Around} {xs : List PyData} {d : PyData} (hd : plainD d = true) (hu : A.units + 65 < cLine) : A.units + 1 + min (PyData.depthAll xs) d.depth < cLine := by
  have h1 := of_decide_eq_true (Bool.and_eq_true_iff.mp hd).2
  omega
theorem cmpD_ok (sm : Sm X) (hu : X.A.units + 70 < cLine) (o : Cp) : OpR X (compareOp (cpc o)) (rB2 (gm X cA) fun d e h => cmpD o h d e) := by
  intro pins s σ H x y v u Q I rx ry hq
  obtain ⟨ι, h, d, e, b, rh, rd, re, p, q⟩ := hq
  have fin : ∀ {t : Nat}, EP X pins σ Q (.bool b) { s with toks := t } := fun {t} => ⟨.bl b, H, I.tok _, rfl, q⟩
  have fin0 : EP X pins σ Q (.bool b) s := ⟨.bl b, H, I, rfl, q⟩
  have both : ∀ {F : PyData → PyData → Option Bool}, (match toPy h deep d, toPy h deep e with | some p, some q => F p q | _, _ => none) = some b → ∃ p q, Rd1 s.heap v p ∧ Rd1 s.heap u q ∧ F p q = some b := by
    intro F hF
    split at hF
    · rename_i p q h1 h2
      exact ⟨p, q, py_reads sm I rh _ _ _ _ _ rd h1 rx, py_reads sm I rh _ _ _ _ _ re h2 ry, hF⟩
    · cases hF
  have ords : ∀ {f : PyData → PyData → Bool}, ordD f h d e = some b → ∃ p q as bs, Reads s.heap v p as ∧ Reads s.heap u q bs ∧ W.alike p q = true ∧ p ≠ .none ∧ X.A.units + min p.depth q.depth < cLine ∧ f p q = b := by
    intro f hF
    obtain ⟨p, q, ⟨as, r1, _⟩, ⟨bs, r2, _⟩, e1⟩ := both (F := fun p q => if plainD p && plainD q && W.alike p q && !isNone p then some (f p q) else none) hF
    split at e1
    · rename_i c
      simp only [Bool.and_eq_true, Bool.not_eq_true'] at c
      refine ⟨p, q, as, bs, r1, r2, c.1.2, fun z => ?_, room_plain c.1.1.1 (by omega), Option.some.inj e1⟩
      have := c.2
      rw [z] at this
      cases this
    · cases e1
  have eqs : ∀ {k : Bool}, eqD h d e = some k → ∃ p q as bs, Reads s.heap v p as ∧ Reads s.heap u q bs ∧ plainD p = true ∧ plainD q = true ∧ PyData.eqv p q = k := by
    intro k hF
    unfold eqD at hF
    split at hF
    · rename_i p q h1 h2
      obtain ⟨as, r1, _⟩ := py_reads sm I rh _ _ _ _ _ rd h1 rx
      obtain ⟨bs, r2, _⟩ := py_reads sm I rh _ _ _ _ _ re h2 ry
      split at hF
      · rename_i c
        simp only [Bool.and_eq_true] at c
        exact ⟨p, q, as, bs, r1, r2, c.1, c.2, Option.some.inj hF⟩
      · cases hF
    · cases hF
  have seqs : ∀ {k : Bool} {xs : List D} {c : List PyData → PyData} (hr : ∀ ps, All2 (fun x y => toPy h deep x = some y) xs ps → ∃ as, Reads s.heap u (c ps) as), seqIn h d xs = some k →
      ∃ p ps as bs, Reads s.heap v p as ∧ Reads s.heap u (c ps) bs ∧ plainD p = true ∧ plainD (.list ps) = true ∧ (ps.any fun z => PyData.eqv z p) = k := by
    intro k xs c hr hF
    unfold seqIn at hF
    split at hF
    · rename_i p ps h1 h2
      obtain ⟨as, r1, _⟩ := py_reads sm I rh _ _ _ _ _ rd h1 rx
      obtain ⟨bs, r2⟩ := hr ps (mapO_all2 h2)
      split at hF
      · rename_i cc
        simp only [Bool.and_eq_true] at cc
        exact ⟨p, ps, as, bs, r1, r2, cc.1, cc.2, Option.some.inj hF⟩
      · cases hF
    · cases hF
  have tupR : ∀ {xs : List D}, e = .tup xs → ∀ ps, All2 (fun x y => toPy h deep x = some y) xs ps → ∃ as, Reads s.heap u (.tuple ps) as := by
    intro xs he ps hp
    subst he
    obtain ⟨a, vs, rfl, ha, ra⟩ := re.of_tup
    cases ry
    obtain ⟨its, rv, ⟨ob, ho, hc, m, hd⟩, _⟩ := I.tuple ha
    obtain ⟨as, hr, _⟩ := reads_all (all_reads (fun v d p u r e ru => py_reads sm I rh deep v d p u r e ru) ra hp rv)
    exact ⟨as, .tuple ho hc hd hr⟩
  have lstR : ∀ {i : Nat} {xs : List D}, e = .ref i → (h[i]? = some (.lst xs) ∨ h[i]? = some (.ro xs)) → ∀ ps, All2 (fun x y => toPy h deep x = some y) xs ps → ∃ as, Reads s.heap u (.list ps) as := by
    intro i xs he hc ps hp
    subst he
    obtain ⟨a, rfl, vs, ha, ra⟩ : ∃ a, y = .ref a ∧ ∃ vs, SqL X.K H a vs ∧ All2 (Rv X.K ι H) vs xs := by
      rcases hc with hc | hc
      · obtain ⟨a, e1, _, vs, ha, ra⟩ := rh.ref re hc
        exact ⟨a, e1, vs, SqL.of ha, ra⟩
      · obtain ⟨a, e1, _, o, vs, ha, ra⟩ := rh.ref re hc
        exact ⟨a, e1, vs, .inl (.inr ⟨o, ha⟩), ra⟩
    cases ry
    obtain ⟨its, rv, ⟨ob, m, ho, hcl, _, hd⟩, _⟩ := I.list ha
    obtain ⟨as, hr, _⟩ := reads_all (all_reads (fun v d p u r e ru => py_reads sm I rh deep v d p u r e ru) ra hp rv)
    exact ⟨_, .list ho hcl hd hr⟩
  cases o with
  | eq =>
    obtain ⟨p, q, as, bs, r1, r2, s1, s2, rfl⟩ := eqs p
    exact SeqAt.eq_plain r1 r2 (plain_of s1) (plain_of s2) (room_plain s1 (by omega)) fin0
  | ne =>
    have p : (eqD h d e).map (!·) = some b := p
    cases hk : eqD h d e with
    | none => rw [hk] at p; cases p
    | some k =>
      rw [hk] at p
      obtain ⟨p', q', as, bs, r1, r2, s1, s2, rfl⟩ := eqs hk
      have e1 : (!PyData.eqv p' q') = b := Option.some.inj p
      exact SeqAt.ne_plain r1 r2 (plain_of s1) (plain_of s2) (room_plain s1 (by omega)) (by rw [e1]; exact fin0)
  | lt =>
    obtain ⟨p, q, as, bs, r1, r2, s1, s2, hr, rfl⟩ := ords p
    exact W.lt_data r1 r2 s1 s2 hr fin0
  | gt =>
    obtain ⟨p, q, as, bs, r1, r2, s1, s2, hr, rfl⟩ := ords p
    exact W.gt_data r1 r2 s1 s2 hr fin0
  | le =>
    obtain ⟨p, q, as, bs, r1, r2, s1, s2, hr, rfl⟩ := ords p
    exact W.le_data r1 r2 s1 s2 hr fin0
  | ge =>
    obtain ⟨p, q, as, bs, r1, r2, s1, s2, hr, rfl⟩ := ords p
    exact W.ge_data r1 r2 s1 s2 hr fin0
  | isN =>
    cases e with
    | non =>
      cases re
      refine op_isN pins s σ H _ _ v u Q I rx ry ⟨rfl, ?_⟩
      have e1 : decide (d = .non) = b := Option.some.inj p
      have e2 : decide (x = V.non) = decide (d = .non) := by cases rd <;> simp
      rw [e2, e1]
      exact q
    | _ => cases p
  | isntN =>
    cases e with
    | non =>
      cases re
      refine op_notN pins s σ H _ _ v u Q I rx ry ⟨rfl, ?_⟩
      have e1 : (!decide (d = .non)) = b := Option.some.inj p
      have e2 : decide (x = V.non) = decide (d = .non) := by cases rd <;> simp
      rw [e2, e1]
      exact q
    | _ => cases p
  | inn =>
    replace p : inD h d e = some b := p
    unfold inD at p
    split at p
    · rename_i xs
      obtain ⟨p', ps, as, bs, r1, r2, s1, s2, rfl⟩ := seqs (tupR rfl) p
      exact SeqAt.in_tuple_data r2 r1 (plain_of s2) (plain_of s1) (room_inP s1 (by omega)) fin0
    · rename_i z
      split at p
      · rename_i x'
        cases rd.of_str; cases re.of_str
        have e1 := Option.some.inj p
        exact op_in_str pins s σ H _ _ v u Q I rx ry ⟨x', z, rfl, rfl, by rw [e1]; exact q⟩
      · cases p
    · rename_i i
      split at p
      · rename_i xs hc
        obtain ⟨p', ps, as, bs, r1, r2, s1, s2, rfl⟩ := seqs (lstR rfl (.inl hc)) p
        exact SeqAt.in_list_data r2 r1 (plain_of s2) (plain_of s1) (room_inP s1 (by omega)) fin0
      · rename_i xs hc
        obtain ⟨p', ps, as, bs, r1, r2, s1, s2, rfl⟩ := seqs (lstR rfl (.inr hc)) p
        exact SeqAt.in_list_data r2 r1 (plain_of s2) (plain_of s1) (room_inP s1 (by omega)) fin0
      · rename_i kvs hc
        split at p
        · rename_i ok
          obtain ⟨a, rfl, hi, rc⟩ := rh.ref re hc
          cases ry
          have e1 := Option.some.inj p
          exact dct_in I (by omega) rc rd rx ok fun s' I' => ⟨.bl b, H, I', by rw [e1]; rfl, q⟩
        · cases p
      · rename_i ks hc
        obtain ⟨a, _, _, rc⟩ := rh.ref re hc
        exact rc.elim
      · cases p
    · cases p
  | notin =>
    replace p : (inD h d e).map (!·) = some b := p
    cases hk : inD h d e with
    | none => rw [hk] at p; cases p
    | some k =>
      rw [hk] at p
      have e1 : (!k) = b := Option.some.inj p
      unfold inD at hk
      split at hk
      · rename_i xs
        obtain ⟨p', ps, as, bs, r1, r2, s1, s2, rfl⟩ := seqs (tupR rfl) hk
        exact SeqAt.notIn_tuple_data r2 r1 (plain_of s2) (plain_of s1) (room_inP s1 (by omega)) (by rw [e1]; exact fin0)
      · rename_i z
        split at hk
        · rename_i x'
          cases rd.of_str; cases re.of_str
          have e2 := Option.some.inj hk
          exact op_notin_str pins s σ H _ _ v u Q I rx ry ⟨x', z, rfl, rfl, by rw [e2, e1]; exact q⟩
        · cases hk
      · rename_i i
        split at hk
        · rename_i xs hc
          obtain ⟨p', ps, as, bs, r1, r2, s1, s2, rfl⟩ := seqs (lstR rfl (.inl hc)) hk
          exact SeqAt.notIn_list_data r2 r1 (plain_of s2) (plain_of s1) (room_inP s1 (by omega)) (by rw [e1]; exact fin0)
        · rename_i xs hc
          obtain ⟨p', ps, as, bs, r1, r2, s1, s2, rfl⟩ := seqs (lstR rfl (.inr hc)) hk
          exact SeqAt.notIn_list_data r2 r1 (plain_of s2) (plain_of s1) (room_inP s1 (by omega)) (by rw [e1]; exact fin0)
        · rename_i kvs hc
          split at hk
          · rename_i ok
            obtain ⟨a, rfl, hi, rc⟩ := rh.ref re hc
            cases ry
            have e2 := Option.some.inj hk
            exact dct_notIn I (by omega) rc rd rx ok fun s' I' => ⟨.bl b, H, I', by rw [e2, e1]; rfl, q⟩
          · cases hk
        · rename_i ks hc
          obtain ⟨a, _, _, rc⟩ := rh.ref re hc
          exact rc.elim
        · cases hk
      · cases hk
end
end Q
end
section
set_option autoImplicit false
set_option Elab.async false
set_option linter.all false
set_option maxRecDepth 4000
set_option maxHeartbeats 1000000
/-! Q: truth, parts of sequences, stores. -/
namespace Q
open PySem L2

section
variable {X : Cx} {cA : Nat → Option Addr} {pins : List (Addr × Obj)} {σ : L2.St} {ι : List Addr} {H : Hp} {h : Hh} {s : Shared}
theorem isEmpty2 {α β : Type} {R : α → β → Prop} {as : List α} {bs : List β} (r : All2 R as bs) : as.isEmpty = bs.isEmpty := by cases r <;> rfl
/-- a list that may be read -/
theorem lst_of {G : Gm} {v : V} {i : Nat} {xs : List D} (rh : Rh G ι H h) (rv : Rv G.K ι H v (.ref i)) (e : lstOf h (.ref i) = some xs) : ∃ a vs, v = .ref a ∧ SqL G.K H a vs ∧ All2 (Rv G.K ι H) vs xs := by
  simp only [lstOf] at e
  split at e
  · rename_i ys hc
    cases e
    obtain ⟨a, rfl, _, vs, ha, ra⟩ := rh.ref rv hc
    exact ⟨a, vs, rfl, SqL.of ha, ra⟩
  · rename_i ys hc
    cases e
    obtain ⟨a, rfl, _, o, vs, ha, ra⟩ := rh.ref rv hc
    exact ⟨a, vs, rfl, .inl (.inr ⟨o, ha⟩), ra⟩
  · cases e
theorem lstOf_ref {d : D} {xs : List D} (e : lstOf h d = some xs) : ∃ i, d = .ref i := by
  cases d with
  | ref i => exact ⟨i, rfl⟩
  | _ => simp [lstOf] at e
/-- truth -/
theorem truth_ok : TruR X (fun x H Q => ∃ ι h d b, Rh (gm X cA) ι H h ∧ Rv X.K ι H x d ∧ truth h d = some b ∧ Q b H) := by
  intro pins s σ H x v Q I rx hq
  obtain ⟨ι, h, d, b, rh, rd, e, q⟩ := hq
  refine tru_ok pins s σ H x v Q I rx ⟨b, ?_, q⟩
  have line := maxLen_line
  cases d with
  | non => cases rd; cases e; rfl
  | bl k => cases rd; cases e; rfl
  | int i => cases rd; cases e; rfl
  | str z =>
    cases rd
    simp only [truth] at e
    split at e
    · rename_i c
      cases e
      exact ⟨Nat.le_trans c line, rfl⟩
    · cases e
  | tup xs =>
    obtain ⟨a, vs, rfl, ha, ra⟩ := rd.of_tup
    cases e
    exact .inr (.inl ⟨vs, ha, by rw [isEmpty2 ra]⟩)
  | ref i =>
    simp only [truth] at e
    split at e
    · rename_i xs hc
      cases e
      obtain ⟨a, rfl, _, vs, ha, ra⟩ := rh.ref rd hc
      exact .inl ⟨vs, SqL.of ha, by rw [isEmpty2 ra]⟩
    · rename_i xs hc
      cases e
      obtain ⟨a, rfl, _, o, vs, ha, ra⟩ := rh.ref rd hc
      exact .inl ⟨vs, .inl (.inr ⟨o, ha⟩), by rw [isEmpty2 ra]⟩
    · rename_i kvs hc
      obtain ⟨a, rfl, _, rc⟩ := rh.ref rd hc
      split at e
      · rename_i hf
        cases e
        obtain ⟨ks, ha, ra⟩ := dct_flat rc (fun x hx => by
          obtain ⟨p, hp, rfl⟩ := List.mem_map.mp hx
          exact List.all_eq_true.mp hf p hp)
        exact .inr (.inr ⟨ks, ha, by rw [isEmpty2 ra]⟩)
      · cases e
    · cases e
theorem atI2 {α β : Type} {R : α → β → Prop} {as : List α} {bs : List β} (r : All2 R as bs) {i : Int} {b : β} (e : atI bs i = some b) : ∃ a, atI as i = some a ∧ R a b := by
  unfold atI at e ⊢
  rw [r.len]
  cases hj : ixN bs.length i with
  | none => rw [hj] at e; cases e
  | some j =>
    rw [hj] at e
    obtain ⟨a, h1, h2⟩ := r.getR (i := j) (b := b) e
    exact ⟨a, h1, h2⟩
/-- d[i] -/
theorem sub_ok (hu : X.A.units + 70 < cLine) : IxR X (fun x y H Q => ∃ ι h d e g, Rh (gm X cA) ι H h ∧ Rv X.K ι H x d ∧ Rv X.K ι H y e ∧ subD h d e = some g ∧ ∀ v, Rv X.K ι H v g → Q v H) := by
  intro value slice pins s σ H x y v u Q I rx ry hq hs
  obtain ⟨ι, h, d, e, g, rh, rd, re, eq, q⟩ := hq
  have line := maxLen_line
  have lst : ∀ {i : Nat} {xs : List D} {k : Int}, Rv X.K ι H x (.ref i) → Rv X.K ι H y (.int k) → lstOf h (.ref i) = some xs → ixL xs k = some g → wpAny (model X.prog X.w) X.A (PyProof.Rows.subscriptTail value slice v u) (EP X pins σ Q) X.xe s := by
    intro i xs k rd re hc hi
    obtain ⟨a, vs, rfl, ha, ra⟩ := lst_of (G := gm X cA) rh rd hc
    cases re.of_int
    obtain ⟨z, hz, rz⟩ := atI2 ra hi
    exact ix_list value slice pins s σ H _ _ v u Q I rx ry ⟨a, vs, k, z, rfl, rfl, ha, hz, q z rz⟩ hs
  unfold subD at eq
  split at eq
  · rename_i xs k
    obtain ⟨a, vs, rfl, ha, ra⟩ := rd.of_tup
    cases re.of_int
    obtain ⟨z, hz, rz⟩ := atI2 ra eq
    exact ix_tup value slice pins s σ H _ _ v u Q I rx ry ⟨a, vs, k, z, rfl, rfl, ha, hz, q z rz⟩ hs
  · rename_i z k
    cases rd.of_str; cases re.of_int
    split at eq
    · rename_i hz
      cases hc : ixL z.cps.toList k with
      | none => rw [hc] at eq; cases eq
      | some c =>
        rw [hc] at eq
        cases eq
        exact ix_str value slice pins s σ H _ _ v u Q I rx ry ⟨z, k, c, rfl, rfl, Nat.le_trans hz line, hc, q _ (.str _)⟩ hs
    · cases eq
  · rename_i j
    split at eq
    · rename_i xs hc
      split at eq
      · exact lst rd re (by simp [lstOf, hc]) eq
      · cases eq
    · rename_i xs hc
      split at eq
      · exact lst rd re (by simp [lstOf, hc]) eq
      · cases eq
    · rename_i kvs hc
      split at eq
      · rename_i ok
        obtain ⟨a, rfl, hi, rc⟩ := rh.ref rd hc
        cases rx
        have ty : s.TypeIs (.ref a) "dict" := by
          rcases rc with ⟨ks, ha, _⟩ | ⟨_, _, _, xs, ha, _⟩
          · obtain ⟨_, _, vs, _, dd⟩ := dk_of I.hok ha
            exact dd.typeIs
          · obtain ⟨⟨o, es, ep, h1, h2, _⟩, _, _⟩ := (show ObjOk X.prog X.w H s.heap a (DkO (gm X cA) a xs) from I.hok a _ ha)
            exact ⟨o, h1, h2.1⟩
        exact PyProof.Rows.tail_any ty PySem.F.slot_dict_getitem.lookup (dct_item I (by omega) rc re ry ok eq fun z w' s' I' rw' rz => ⟨z, H, I', rw', q z rz⟩) hs
      · cases eq
    · cases eq
  · cases eq
theorem cut2 {α β : Type} {R : α → β → Prop} {as : List α} {bs : List β} (r : All2 R as bs) (lo hi : Option Int) : All2 R ((as.drop (HT.sIx as.length 0 lo)).take (HT.sIx as.length as.length hi - HT.sIx as.length 0 lo)) (cutL bs lo hi) := by
  unfold cutL
  rw [r.len]
  exact (r.drop _).take _
/-- d[lo:hi] -/
theorem slc_ok : SlR X (fun x lo hi H Q => ∃ ι h d, Rh (gm X cA) ι H h ∧ Rv X.K ι H x d ∧ PostO (gm X cA) (Rv X.K) ι H (slcD h d lo hi) Q) := by
  intro pins s σ H x v vl vu lo hi sl Q I rx hs pl pu hq
  obtain ⟨ι, h, d, rh, rd, p⟩ := hq
  have line := maxLen_line
  unfold slcD at p
  split at p
  · rename_i xs
    obtain ⟨a, vs, rfl, ha, ra⟩ := rd.of_tup
    refine sl_tupA pins s σ H _ v vl vu lo hi sl Q I rx hs pl pu ⟨a, vs, rfl, ha, fun hw => ?_, fun _ => p.tup rh (cut2 ra lo hi)⟩
    refine p.here rh (.tupA ha ?_)
    have := cut2 ra lo hi
    rw [hw.1, hw.2] at this
    simpa using this
  · rename_i z
    cases rd.of_str
    split at p
    · rename_i hz
      exact sl_str pins s σ H _ v vl vu lo hi sl Q I rx hs pl pu ⟨z, rfl, Nat.le_trans hz line, p.here rh (.str _)⟩
    · exact p.elim
  · rename_i i
    cases hc : lstOf h (.ref i) with
    | none => rw [hc] at p; exact p.elim
    | some xs =>
      rw [hc] at p
      obtain ⟨a, vs, rfl, ha, ra⟩ := lst_of (G := gm X cA) rh rd hc
      exact sl_list pins s σ H _ v vl vu lo hi sl Q I rx hs pl pu ⟨a, vs, rfl, ha, p.lst rh (cut2 ra lo hi)⟩
  · exact p.elim
/-- d[i] = v -/
theorem set_ok (hu : X.A.units + 70 < cLine) : PSet X (fun o i v H Q => ∃ ι h d e g h', Rh (gm X cA) ι H h ∧ Rv X.K ι H o d ∧ Rv X.K ι H i e ∧ Rv X.K ι H v g ∧ setD h d e g = some h' ∧ ∀ H', Ext ι H ι H' → Rh (gm X cA) ι H' h' → Q H') := by
  intro pins s σ H o i v ov iv u Q I ro ri rv hq
  obtain ⟨ι, h, d, e, g, h', rh, rd, re, rg, eq, q⟩ := hq
  unfold setD at eq
  split at eq
  · rename_i j
    split at eq
    · rename_i xs hc
      split at eq
      · rename_i k
        split at eq
        · rename_i n hn
          cases eq
          cases re.of_int
          obtain ⟨a, rfl, hi, vs, ha, ra⟩ := rh.ref rd hc
          have nf : ∀ u x, H a ≠ some (.frz u x) := fun u x z => by rw [ha] at z; cases z
          have ext : ∀ o, Ext ι H ι (upd H a o) := fun o => ext_set rh (List.mem_of_getElem? hi) nf
          refine set_list pins s σ H _ _ v ov iv u Q I ro ri rv ⟨a, vs, k, n, rfl, rfl, ha, by rw [ra.len]; exact hn, q _ (ext _) (rh.put hi nf ⟨_, upd_same, ?_⟩)⟩
          exact ext2 (ext _) (ra.set rg n)
        · cases eq
      · cases eq
    · rename_i kvs hc
      split at eq
      · rename_i ok
        cases eq
        simp only [Bool.and_eq_true, decide_eq_true_eq] at ok
        obtain ⟨a, rfl, hi, rc⟩ := rh.ref rd hc
        cases ro
        exact dct_set I rh (by omega) hi rc re ri rg rv ok.1 ok.2 fun s' o' I' ext rh' => ⟨_, I', q _ ext rh'⟩
      · cases eq
    · cases eq
  · cases eq
end
end Q
end
section
set_option autoImplicit false
set_option Elab.async false
set_option linter.all false
set_option maxRecDepth 4000
set_option maxHeartbeats 1000000
/-! Q: built-in functions. -/
namespace Q
open PySem L2

section
variable {X : Cx} {cA : Nat → Option Addr} {pins : List (Addr × Obj)} {σ : L2.St} {ι : List Addr} {H : Hp} {h : Hh} {s : Shared}
def btV : Bt → Value
  | .len => .builtin "len"
  | .tuple => .type "tuple"
  | .list => .type "list"
  | .all => .builtin "all"
  | .any => .builtin "any"
  | .int => .type "int"
  | .str => .type "str"
  | .repr => .builtin "repr"
  | .sum => .builtin "sum"
  | .max2 => .builtin "max"
  | .min2 => .builtin "min"
  | .max1 => .builtin "max"
  | .min1 => .builtin "min"
  | .sorted => .builtin "sorted"
  | .set => .type "set"
  | .dict => .type "dict"
  | _ => .none
theorem bools_rep {K : W.Frag} : ∀ {vs : List V} {ds : List D} {bs : List Bool}, All2 (Rv K ι H) vs ds → boolsOf ds = some bs → vs = bs.map V.bl
  | _, _, _, .nil, e => by cases e; rfl
  | _, _, _, .cons (b := d) (bs := ds) r t, e => by
    cases d with
    | bl b =>
      simp only [boolsOf] at e
      cases hb : boolsOf ds with
      | none => rw [hb] at e; cases e
      | some l =>
        rw [hb] at e
        cases e
        rw [r.of_bl, bools_rep t hb]
        rfl
    | _ => simp [boolsOf] at e
theorem ints_rep {K : W.Frag} : ∀ {vs : List V} {ds : List D} {bs : List Int}, All2 (Rv K ι H) vs ds → intsOf ds = some bs → vs = bs.map V.int
  | _, _, _, .nil, e => by cases e; rfl
  | _, _, _, .cons (b := d) (bs := ds) r t, e => by
    cases d with
    | int b =>
      simp only [intsOf] at e
      cases hb : intsOf ds with
      | none => rw [hb] at e; cases e
      | some l =>
        rw [hb] at e
        cases e
        rw [r.of_int, ints_rep t hb]
        rfl
    | _ => simp [intsOf] at e
theorem strs_rep {K : W.Frag} : ∀ {vs : List V} {ds : List D} {bs : List Str}, All2 (Rv K ι H) vs ds → strsOf ds = some bs → vs = bs.map V.str
  | _, _, _, .nil, e => by cases e; rfl
  | _, _, _, .cons (b := d) (bs := ds) r t, e => by
    cases d with
    | str b =>
      simp only [strsOf] at e
      cases hb : strsOf ds with
      | none => rw [hb] at e; cases e
      | some l =>
        rw [hb] at e
        cases e
        rw [r.of_str, strs_rep t hb]
        rfl
    | _ => simp [strsOf] at e
theorem maxI_spec : ∀ (r : List Int) (a : Int), (maxI a r = a ∨ maxI a r ∈ r) ∧ a ≤ maxI a r ∧ ∀ y ∈ r, y ≤ maxI a r
  | [], a => by simp [maxI]
  | b :: r, a => by
    simp only [maxI]
    obtain ⟨h1, h2, h3⟩ := maxI_spec r (if b > a then b else a)
    refine ⟨?_, ?_, ?_⟩
    · rcases h1 with h1 | h1
      · rw [h1]; split <;> simp
      · exact .inr (List.mem_cons_of_mem _ h1)
    · refine Int.le_trans ?_ h2; split <;> omega
    · intro y hy
      rcases List.mem_cons.mp hy with rfl | hy
      · refine Int.le_trans ?_ h2; split <;> omega
      · exact h3 y hy
theorem minI_spec : ∀ (r : List Int) (a : Int), (minI a r = a ∨ minI a r ∈ r) ∧ minI a r ≤ a ∧ ∀ y ∈ r, minI a r ≤ y
  | [], a => by simp [minI]
  | b :: r, a => by
    simp only [minI]
    obtain ⟨h1, h2, h3⟩ := minI_spec r (if b < a then b else a)
    refine ⟨?_, ?_, ?_⟩
    · rcases h1 with h1 | h1
      · rw [h1]; split <;> simp
      · exact .inr (List.mem_cons_of_mem _ h1)
    · refine Int.le_trans h2 ?_; split <;> omega
    · intro y hy
      rcases List.mem_cons.mp hy with rfl | hy
      · refine Int.le_trans h2 ?_; split <;> omega
      · exact h3 y hy
theorem all2_one {α β : Type} {R : α → β → Prop} {as : List α} {b : β} (r : All2 R as [b]) : ∃ a, as = [a] ∧ R a b := by
  cases r with
  | cons r t => cases t; exact ⟨_, rfl, r⟩
theorem all2_two {α β : Type} {R : α → β → Prop} {as : List α} {b c : β} (r : All2 R as [b, c]) : ∃ a a', as = [a, a'] ∧ R a b ∧ R a' c := by
  cases r with
  | cons r t => obtain ⟨a, rfl, q⟩ := all2_one t; exact ⟨_, _, rfl, r, q⟩
def plainB : Bt → Bool
  | .listR1 => false
  | .listR2 => false
  | .tupR1 => false
  | .tupR2 => false
  | _ => true
theorem bt_ok (sm : Sm X) (hc : X.calm = true) (hg : X.A.guards = some []) (hu : X.A.units + 100 < cLine) (b : Bt) (hb : plainB b = true) :
    CallR X (btV b) (fun xs H Q => ∃ ι h ds, Rh (gm X cA) ι H h ∧ All2 (Rv X.K ι H) xs ds ∧ PostO (gm X cA) (Rv X.K) ι H (btD b ds h) Q) := by
  intro pins s σ H xs us Q I ru hq
  obtain ⟨ι, h, ds, rh, rd, p⟩ := hq
  have line := maxLen_line
  have lst : ∀ {d : D} {x : V} {ys : List D}, Rv X.K ι H x d → lstOf h d = some ys → ∃ a vs, x = .ref a ∧ SqL X.K H a vs ∧ All2 (Rv X.K ι H) vs ys := by
    intro d x ys r e
    obtain ⟨i, rfl⟩ := lstOf_ref e
    exact lst_of (G := gm X cA) rh r e
  unfold btD at p
  split at p
  · -- len of a tuple
    obtain ⟨x, rfl, r⟩ := all2_one rd
    obtain ⟨a, vs, rfl, ha, ra⟩ := r.of_tup
    exact call_len_seq pins s σ H _ us Q I ru ⟨a, vs, rfl, .inr ha, by rw [ra.len]; exact p.here rh (.int _)⟩
  · obtain ⟨x, rfl, r⟩ := all2_one rd
    cases r.of_str
    split at p
    · rename_i hz
      exact call_len_str pins s σ H _ us Q I ru ⟨_, rfl, Nat.le_trans hz line, p.here rh (.int _)⟩
    · exact p.elim
  · obtain ⟨x, rfl, r⟩ := all2_one rd
    split at p
    · rename_i hcx
      obtain ⟨a, rfl, _, vs, ha, ra⟩ := rh.ref r hcx
      exact call_len_seq pins s σ H _ us Q I ru ⟨a, vs, rfl, .inl (SqL.of ha), by rw [ra.len]; exact p.here rh (.int _)⟩
    · rename_i hcx
      obtain ⟨a, rfl, _, o, vs, ha, ra⟩ := rh.ref r hcx
      exact call_len_seq pins s σ H _ us Q I ru ⟨a, vs, rfl, .inl (.inl (.inr ⟨o, ha⟩)), by rw [ra.len]; exact p.here rh (.int _)⟩
    · rename_i kvs hcx
      obtain ⟨a, rfl, _, rc⟩ := rh.ref r hcx
      have q := p.here rh (b := .int kvs.length) (.int _)
      rcases rc with ⟨ks, ha, ra⟩ | ⟨h0, _, hz, xs, ha, ra, nd⟩
      · exact call_lenD pins s σ H _ us Q I ru ⟨a, ks, rfl, ha, by rw [ra.len]; exact q⟩
      · obtain ⟨u, rfl, rx⟩ := vals1 ru
        obtain rfl : u = .ref a := rx
        obtain ⟨⟨o, es, ep, h1, h2, h3, h4⟩, _, _⟩ := (show ObjOk X.prog X.w H s.heap a (DkO (gm X cA) a xs) from I.hok a _ ha)
        have hD : s.heap.DictOfH (nestedKind X.prog X.w) a xs := by
          refine ⟨o, es, ep, h1, h2, h3, h4, fun x hx => ?_, nd⟩
          obtain ⟨i, hi⟩ := List.mem_iff_getElem?.mp hx
          obtain ⟨q', _, z1, z2, z3, _⟩ := ra.getL hi
          obtain ⟨_, k, _, e1, e2⟩ := isTupK_shape z2
          rw [z1] at e1; cases e1
          exact ⟨nk_is I _ _ _ _ z3 z1 rfl, e2⟩
        have hl := ra.len
        have h63 : sizeLine < 2 ^ 63 := line63
        exact call_len_dictH h0 hD (by omega) ⟨.int kvs.length, H, I.tok _, ⟨_, by rw [← hl]⟩, q⟩
    · rename_i ks hcx
      obtain ⟨a, _, _, rc⟩ := rh.ref r hcx
      exact rc.elim
    · exact p.elim
  · -- tuple
    obtain ⟨x, rfl, r⟩ := all2_one rd
    obtain ⟨a, vs, rfl, ha, ra⟩ := r.of_tup
    exact call_tuple_of pins s σ H _ us Q I ru ⟨a, vs, rfl, .inr ⟨ha, p.here rh r⟩⟩
  · obtain ⟨x, rfl, r⟩ := all2_one rd
    rename_i d _
    cases hl : lstOf h d with
    | none => rw [hl] at p; exact p.elim
    | some ys =>
      rw [hl] at p
      obtain ⟨a, vs, rfl, ha, ra⟩ := lst r hl
      exact call_tuple_of pins s σ H _ us Q I ru ⟨a, vs, rfl, .inl ⟨ha, p.tup rh ra⟩⟩
  · -- list
    obtain ⟨x, rfl, r⟩ := all2_one rd
    obtain ⟨a, vs, rfl, ha, ra⟩ := r.of_tup
    exact call_list_of pins s σ H _ us Q I ru ⟨a, vs, rfl, .inr ha, p.lst rh ra⟩
  · obtain ⟨x, rfl, r⟩ := all2_one rd
    rename_i i
    cases hl : lstOf h (.ref i) with
    | none => rw [hl] at p; exact p.elim
    | some ys =>
      rw [hl] at p
      obtain ⟨a, vs, rfl, ha, ra⟩ := lst r hl
      exact call_list_of pins s σ H _ us Q I ru ⟨a, vs, rfl, .inl ha, p.lst rh ra⟩
  · -- all
    obtain ⟨x, rfl, r⟩ := all2_one rd
    rename_i d
    cases hl : lstOf h d with
    | none => rw [hl] at p; exact p.elim
    | some ys =>
      rw [hl] at p
      obtain ⟨a, vs, rfl, ha, ra⟩ := lst r hl
      cases hb : boolsOf ys with
      | none => simp [hb] at p; exact p.elim
      | some bs =>
        simp only [hb, Option.bind_some, Option.map_some] at p
        rw [bools_rep ra hb] at ha
        exact cr_all hc pins s σ H _ us Q I ru ⟨a, bs, rfl, ha, p.here rh (.bl _)⟩
  · obtain ⟨x, rfl, r⟩ := all2_one rd
    rename_i d
    cases hl : lstOf h d with
    | none => rw [hl] at p; exact p.elim
    | some ys =>
      rw [hl] at p
      obtain ⟨a, vs, rfl, ha, ra⟩ := lst r hl
      cases hb : boolsOf ys with
      | none => simp [hb] at p; exact p.elim
      | some bs =>
        simp only [hb, Option.bind_some, Option.map_some] at p
        rw [bools_rep ra hb] at ha
        exact cr_any hc pins s σ H _ us Q I ru ⟨a, bs, rfl, ha, p.here rh (.bl _)⟩
  · -- int
    obtain ⟨x, rfl, r⟩ := all2_one rd
    cases r.of_int
    exact call_int1 pins s σ H _ us Q I ru (.inl ⟨_, rfl, p.here rh (.int _)⟩)
  · obtain ⟨x, rfl, r⟩ := all2_one rd
    cases r.of_bl
    exact call_int1 pins s σ H _ us Q I ru (.inr ⟨_, rfl, p.here rh (.int _)⟩)
  · -- str
    obtain ⟨x, rfl, r⟩ := all2_one rd
    cases r.of_str
    exact SkE.call_str_str pins s σ H _ us Q I ru ⟨_, rfl, p.here rh (.str _)⟩
  · obtain ⟨x, rfl, r⟩ := all2_one rd
    cases r.of_int
    split at p
    · rename_i hz
      exact call_str_int pins s σ H _ us Q I ru ⟨_, rfl, hz, p.here rh (.str _)⟩
    · exact p.elim
  · -- repr
    obtain ⟨x, rfl, r⟩ := all2_one rd
    rename_i d
    cases hr : reprD h d with
    | none => rw [hr] at p; exact p.elim
    | some z =>
      rw [hr] at p
      have q := p.here rh (b := .str z) (.str _)
      obtain ⟨u, rfl, rx⟩ := vals1 ru
      unfold reprD at hr
      split at hr
      · rename_i py hp
        split at hr
        · rename_i cc
          cases hr
          simp only [Bool.and_eq_true, decide_eq_true_eq] at cc
          obtain ⟨as, rr, ns⟩ := py_reads (cA := cA) sm I rh _ _ _ _ _ r hp rx
          have big : ∀ a, u = .ref a → wpAny (model X.prog X.w) X.A (call (.builtin "repr") [u]) (EP X pins σ Q) X.xe s := fun a e => by
            subst e
            exact repr_of_reads' (h₀ := s.heap) (hsz := Nat.le_trans cc.2 line) rr cc.1.1 (fun _ => ns) hg (by have := cc.1.2; omega) (fun _ _ e => e) fun h' t tk k => ⟨.str _, H, I.kept (t' := tk) k, ⟨t, rfl⟩, q⟩
          cases rr with
          | none => exact PySem.P.repr_of_none ⟨.str _, H, I.tok _, ⟨_, rfl⟩, q⟩
          | bool b => exact PySem.P.repr_of_bool ⟨.str _, H, I.tok _, ⟨_, rfl⟩, q⟩
          | int i t => exact PySem.P.repr_of_int (of_decide_eq_true cc.1.1) ⟨.str _, H, I.tok _, ⟨_, rfl⟩, q⟩
          | str x t => exact PySem.P.repr_of_str (hsz := Nat.le_trans cc.2 line) ⟨.str _, H, I.tok _, ⟨_, rfl⟩, q⟩
          | list _ _ _ _ => exact big _ rfl
          | tuple _ _ _ _ => exact big _ rfl
          | dict _ _ _ _ _ => exact big _ rfl
        · cases hr
      · cases hr
  · -- sum
    obtain ⟨x, rfl, r⟩ := all2_one rd
    rename_i d
    cases hl : lstOf h d with
    | none => rw [hl] at p; exact p.elim
    | some ys =>
      rw [hl] at p
      obtain ⟨a, vs, rfl, ha, ra⟩ := lst r hl
      cases hb : intsOf ys with
      | none => simp [hb] at p; exact p.elim
      | some bs =>
        simp only [hb, Option.bind_some, Option.map_some] at p
        rw [ints_rep ra hb] at ha
        exact cr_sum hc pins s σ H _ us Q I ru ⟨a, bs, rfl, ha, p.here rh (.int _)⟩
  · obtain ⟨x, y, rfl, r1, r2⟩ := all2_two rd
    cases r1.of_int; cases r2.of_int
    exact call_max2 hc pins s σ H _ us Q I ru ⟨_, _, rfl, p.here rh (.int _)⟩
  · obtain ⟨x, y, rfl, r1, r2⟩ := all2_two rd
    cases r1.of_int; cases r2.of_int
    exact call_min2 hc pins s σ H _ us Q I ru ⟨_, _, rfl, p.here rh (.int _)⟩
  · obtain ⟨x, rfl, r⟩ := all2_one rd
    rename_i d
    cases hl : lstOf h d with
    | none => rw [hl] at p; exact p.elim
    | some ys =>
      rw [hl] at p
      obtain ⟨a, vs, rfl, ha, ra⟩ := lst r hl
      cases hb : intsOf ys with
      | none => simp [hb] at p; exact p.elim
      | some bs =>
        rw [ints_rep ra hb] at ha
        cases bs with
        | nil => simp [hb] at p; exact p.elim
        | cons z zs =>
          simp only [hb, Option.bind_some, Option.map_some] at p
          refine cr_max hc pins s σ H _ us Q I ru ⟨a, z :: zs, rfl, ha, by simp, fun m hm hle => ?_⟩
          obtain ⟨h1, h2, h3⟩ := maxI_spec zs z
          have e : m = maxI z zs := by
            have u1 : m ≤ maxI z zs := by
              rcases List.mem_cons.mp hm with rfl | hm
              · exact h2
              · exact h3 m hm
            have u2 : maxI z zs ≤ m := by
              rcases h1 with h1 | h1
              · rw [h1]; exact hle _ List.mem_cons_self
              · exact hle _ (List.mem_cons_of_mem _ h1)
            omega
          rw [e]
          exact p.here rh (.int _)
  · obtain ⟨x, rfl, r⟩ := all2_one rd
    rename_i d
    cases hl : lstOf h d with
    | none => rw [hl] at p; exact p.elim
    | some ys =>
      rw [hl] at p
      obtain ⟨a, vs, rfl, ha, ra⟩ := lst r hl
      cases hb : intsOf ys with
      | none => simp [hb] at p; exact p.elim
      | some bs =>
        rw [ints_rep ra hb] at ha
        cases bs with
        | nil => simp [hb] at p; exact p.elim
        | cons z zs =>
          simp only [hb, Option.bind_some, Option.map_some] at p
          refine cr_min hc pins s σ H _ us Q I ru ⟨a, z :: zs, rfl, ha, by simp, fun m hm hle => ?_⟩
          obtain ⟨h1, h2, h3⟩ := minI_spec zs z
          have e : m = minI z zs := by
            have u1 : minI z zs ≤ m := by
              rcases List.mem_cons.mp hm with rfl | hm
              · exact h2
              · exact h3 m hm
            have u2 : m ≤ minI z zs := by
              rcases h1 with h1 | h1
              · rw [h1]; exact hle _ List.mem_cons_self
              · exact hle _ (List.mem_cons_of_mem _ h1)
            omega
          rw [e]
          exact p.here rh (.int _)
  all_goals first | exact p.elim | cases hb
end
end Q
end
section
set_option autoImplicit false
set_option Elab.async false
set_option linter.all false
set_option maxRecDepth 4000
set_option maxHeartbeats 1000000
/-! Q: methods of built-in types. -/
namespace Q
open PySem L2

section
variable {X : Cx} {cA : Nat → Option Addr} {pins : List (Addr × Obj)} {σ : L2.St} {ι : List Addr} {H : Hp} {h : Hh} {s : Shared}
def bmN : Bm → Str
  | .append => "append"
  | .pop => "pop"
  | .extend => "extend"
  | .join => "join"
  | .index => "index"
  | .count => "count"
  | .get1 => "get"
  | .get2 => "get"
  | .setdefault => "setdefault"
  | .update => "update"
  | .split => "split"
  | .lower => "lower"
  | .bitlen => "bit_length"
  | .popAt => "pop"
def kdT : Kd → String
  | .str => "str"
  | .lst => "list"
/-- a method that we know, of a type -/
def bmI : Kd → Bm → Option String
  | .str, .join => some "str.join"
  | .lst, .append => some "list.append"
  | .lst, .pop => some "list.pop"
  | .lst, .extend => some "list.extend"
  | _, _ => none
theorem bm_slot {k : Kd} {m : Bm} {id : String} (e : bmI k m = some id) : PlainAttrs (kdT k) ∧ Slot (kdT k) (bmN m) id ∧ typeOf (.builtin id) = pure (.type "method_descriptor") := by
  cases k <;> cases m <;> simp only [bmI, Option.some.injEq, reduceCtorEq] at e <;> subst e
  · exact ⟨PySem.F.plainAttrs_str, PySem.F.slot_str_join, PySem.F.type_str_join⟩
  · exact ⟨PySem.F.plainAttrs_list, PySem.F.slot_list_append, PySem.F.type_list_append⟩
  · exact ⟨PySem.F.plainAttrs_list, PySem.F.slot_list_pop, PySem.F.type_list_pop⟩
  · exact ⟨PySem.F.plainAttrs_list, PySem.F.slot_list_extend, PySem.F.type_list_extend⟩
/-- the receiver is of that type -/
theorem kind_ty {k : Kd} {d : D} {x : V} {v : Value} (I : Inv X pins σ H s) (rh : Rh (gm X cA) ι H h) (rd : Rv X.K ι H x d) (rx : RelV x v) (e : kindD h d = some k) :
    s.TypeIs v (kdT k) ∧ ∀ a, v = .ref a → ∃ ob, s.heap.get? a = some ob ∧ ob.dict = none := by
  refine tyV_is (T := kdT k) (x := x) I rx ?_
  cases d with
  | str z => cases rd; cases e; rfl
  | ref i =>
    simp only [kindD] at e
    split at e
    · rename_i xs hc
      cases e
      obtain ⟨a, rfl, _, vs, ha, _⟩ := rh.ref rd hc
      exact .inl ⟨rfl, vs, SqL.of ha⟩
    · cases e
  | _ => simp [kindD] at e
/-- its method runs -/
theorem bm_ok {k : Kd} {m : Bm} {id : String} (e : bmI k m = some id) :
    MtR X id (fun x xs H Q => ∃ ι h d ds, Rh (gm X cA) ι H h ∧ Rv X.K ι H x d ∧ All2 (Rv X.K ι H) xs ds ∧ kindD h d = some k ∧ PostO (gm X cA) (Rv X.K) ι H (bmD m d ds h) Q) := by
  intro pins s σ H x xs v us Q I rx ru hq
  obtain ⟨ι, h, d, ds, rh, rd, rds, ek, p⟩ := hq
  have line := maxLen_line
  have wr : ∀ {i : Nat} {a : Addr} {vs ws : List V} {ys : List D}, ι[i]? = some a → H a = some (.lst vs) → All2 (Rv X.K ι H) ws ys → Ext ι H ι (upd H a (.lst ws)) ∧ Rh (gm X cA) ι (upd H a (.lst ws)) (h.set i (.lst ys)) := by
    intro i a vs ws ys hi ha ra
    have nf : ∀ u x, H a ≠ some (.frz u x) := fun u x z => by rw [ha] at z; cases z
    have ext := ext_set (o := .lst ws) rh (List.mem_of_getElem? hi) nf
    exact ⟨ext, rh.put hi nf ⟨ws, upd_same, ext2 ext ra⟩⟩
  cases d with
  | str z =>
    cases ek
    cases m <;> simp only [bmI, Option.some.injEq, reduceCtorEq] at e
    subst e
    cases rd
    have go : ∀ {ys : List D} {y : V} {a : Addr} {vs : List V}, y = .ref a → xs = [y] → (SqL X.K H a vs ∨ SqT X.K H a vs) → All2 (Rv X.K ι H) vs ys → PostO (gm X cA) (Rv X.K) ι H ((joinD z ys).map fun z => (D.str z, h)) Q → wpAny (model X.prog X.w) X.A (call (.builtin "str.join") (v :: us)) (EP X pins σ Q) X.xe s := by
      intro ys y a vs hy hxs ha ra p
      subst hxs
      subst hy
      unfold joinD at p
      split at p
      · rename_i zs hz
        rw [strs_rep ra hz] at ha
        split at p
        · rename_i hl
          exact mt_join pins s σ H _ _ v us Q I rx ru ⟨z, a, zs, rfl, rfl, ha, by rw [sizeLine_eq] at line; omega, p.here rh (.str _)⟩
        · exact p.elim
      · exact p.elim
    cases rds with
    | nil => exact p.elim
    | cons ry t =>
      cases t with
      | cons _ _ => exact p.elim
      | nil =>
        rename_i y g
        cases g with
        | tup ys =>
          obtain ⟨a, vs, e1, ha, ra⟩ := ry.of_tup
          exact go e1 rfl (.inr ha) ra p
        | ref i =>
          simp only [bmD] at p
          cases hl : lstOf h (.ref i) with
          | none => simp only [hl] at p; exact p.elim
          | some ys =>
            simp only [hl] at p
            obtain ⟨a, vs, e1, ha, ra⟩ := lst_of (G := gm X cA) rh ry hl
            exact go e1 rfl (.inl ha) ra p
        | non => exact p.elim
        | bl _ => exact p.elim
        | int _ => exact p.elim
        | str _ => exact p.elim
  | ref i =>
    have hk : k = .lst := by
      simp only [kindD] at ek
      split at ek
      · exact (Option.some.inj ek).symm
      · cases ek
    subst hk
    cases m <;> simp only [bmI, Option.some.injEq, reduceCtorEq] at e <;> subst e
    · simp only [bmD] at p
      split at p
      · rename_i ys hc
        obtain ⟨a, rfl, hi, vs, ha, ra⟩ := rh.ref rd hc
        split at p
        · rename_i g _
          obtain ⟨y, rfl, ry⟩ := all2_one rds
          split at p
          · rename_i hl
            obtain ⟨e1, e2⟩ := wr hi ha (ra.app (.cons ry .nil))
            exact mt_append pins s σ H _ _ v us Q I rx ru ⟨a, vs, y, rfl, rfl, ha, by rw [ra.len]; omega, p _ ι _ e1 e2 .non⟩
          · exact p.elim
        all_goals first | exact p.elim | contradiction
      · exact p.elim
    · simp only [bmD] at p
      split at p
      · rename_i ys hc
        obtain ⟨a, rfl, hi, vs, ha, ra⟩ := rh.ref rd hc
        split at p
        · contradiction
        · cases rds
          split at p
          · rename_i g hg
            have hne : ys ≠ [] := fun z => by rw [z] at hg; simp at hg
            rw [List.getLast?_eq_getElem?] at hg
            obtain ⟨y, hy, ry⟩ := ra.getR hg
            have hd : All2 (Rv X.K ι H) vs.dropLast ys.dropLast := by
              rw [List.dropLast_eq_take, List.dropLast_eq_take, ra.len]
              exact ra.take _
            obtain ⟨e1, e2⟩ := wr hi ha hd
            exact mt_pop pins s σ H _ _ v us Q I rx ru ⟨a, vs, y, rfl, rfl, ha, by rw [ra.len]; exact hy, p _ ι _ e1 e2 (ry.ext e1)⟩
          · exact p.elim
        all_goals first | exact p.elim | contradiction
      · exact p.elim
    · simp only [bmD] at p
      split at p
      · rename_i ys hc
        obtain ⟨a, rfl, hi, vs, ha, ra⟩ := rh.ref rd hc
        split at p
        · contradiction
        · contradiction
        · rename_i g _
          obtain ⟨y, rfl, ry⟩ := all2_one rds
          split at p
          · rename_i j
            split at p
            · rename_i zs hc2
              obtain ⟨b, rfl, hj, ws, hb, rb⟩ := rh.ref ry hc2
              split at p
              · rename_i hl
                have l1 := ra.len
                have l2 := rb.len
                obtain ⟨e1, e2⟩ := wr hi ha (ra.app rb)
                exact mt_extend pins s σ H _ _ v us Q I rx ru ⟨a, b, vs, ws, rfl, rfl, ha, hb, by omega, p _ ι _ e1 e2 .non⟩
              · exact p.elim
            · exact p.elim
          · exact p.elim
        · exact p.elim
      · exact p.elim
  | _ => simp [kindD] at ek
end
end Q
end
section
set_option autoImplicit false
set_option Elab.async false
set_option linter.all false
set_option maxRecDepth 4000
set_option maxHeartbeats 1000000
/-! Q: a def's promise where no repr is under way (as the hand layer's FnOk, with that said besides), and its calls. -/
namespace Q
open PySem L2

structure FOk (P : Program) (w : World) (K : W.Frag) (mg : Str → Option Value) (base : Heap) (k : Nat) (f : Addr) (fd : FuncData) (ps : List Str) (sp : Sp) : Prop where
  len : ∀ vs H Q E, sp vs H Q E → vs.length = ps.length
  run : ∀ (B : Around) (fs : List Env) (st : Shared) (H : Hp) (ar : Args) (us : List Value) (vs : List V) (Q : VK) (E : XK), Room k B → B.guards = some [] → Env0 P w K mg base B fs st H →
    BindsTo st fd ar (ps.zip us) → Vals vs us → sp vs H Q E → codeAny (model P w) B (.call (.ref f) ar) (CR (L2.CX P w) fs P w H st Q E) st

section
variable {X : Cx} {W : WX} {k : Nat} {f C : Addr} {fd : FuncData} {ps : List Str} {sp : Sp} {pins : List (Addr × Obj)} {σ : L2.St} {H : Hp} {s : Shared} {Q : VK}
/-- the callee runs -/
theorem run_f (F : FOk X.prog X.w X.K X.mg X.base k f fd ps sp) (hr : Room k X.A) (hg : X.A.guards = some []) (tk : Takes X W) (I : L2.Inv X pins σ H s) {pos : List Value} {kw : List (Str × Value)} {us : List Value} {vs : List V}
    (hb : BindsTo s fd ⟨pos, kw⟩ (ps.zip us)) (r : Vals vs us) (h : sp vs H Q fun c d H' => W c d σ H') : wpAny (model X.prog X.w) X.A (call (.ref f) pos kw) (EP X pins σ Q) X.xe s := by
  have go := F.run X.A X.stack s H ⟨pos, kw⟩ us vs Q _ hr hg I.env0 hb r h
  refine wpAny_call (codeAny_mono go fun res st hq => ?_)
  cases res with
  | error e => exact tk _ _ (XE.of_call I (fun _ _ _ z => z) hq)
  | ok fl =>
    cases fl with
    | ret u => exact I.after hq
    | _ => exact hq.elim
/-- a new instance of a class of our own -/
theorem run_mk (M : Mk X.K C f) (F : FOk X.prog X.w X.K X.mg X.base k f fd ps sp) (hr : Room (k + 1) X.A) (hg : X.A.guards = some []) (tk : Takes X W) (I : L2.Inv X pins σ H s) {pos : List Value} {kw : List (Str × Value)} {us : Value → List Value} {vs : V → List V}
    (hb : ∀ (st : Shared) (self : Value), BindsTo st fd ⟨self :: pos, kw⟩ (ps.zip (us self))) (r : ∀ a, Vals (vs (.ref a)) (us (.ref a)))
    (h : ∀ x dx, H x = none → H dx = none → dx ≠ x → sp (vs (.ref x)) (upd (upd H dx (.own x)) x (.ins C dx [])) (fun v H2 => v = .non ∧ Q (.ref x) H2) fun c d H' => W c d σ H') :
    wpAny (model X.prog X.w) X.A (call (.ref C) pos kw) (EP X pins σ Q) X.xe s := by
  have n1 : H (s.heap.objs.size + 1) = none := I.hok.fresh (Nat.le_succ _)
  have n2 : H s.heap.objs.size = none := I.hok.fresh (Nat.le_refl _)
  have J := Inv.made (C := C) I
  have go := F.run _ X.stack _ _ ⟨.ref (s.heap.objs.size + 1) :: pos, kw⟩ (us (.ref (s.heap.objs.size + 1))) (vs (.ref (s.heap.objs.size + 1))) _ _
    (hr.make C pos kw) hg (J.env0.make C pos kw) (hb _ _) (r _) (h _ _ n1 n2 (Nat.ne_of_lt (Nat.lt_succ_self _)))
  refine wpAny_call (make_map (f := f) I.kIn M.makes M.init (beq_iff_eq.mp M.fn) (codeAny_mono go fun res st hq => ?_))
  cases res with
  | error e => exact tk _ _ (XE.of_call J (fun _ _ _ z => z) hq)
  | ok fl =>
    cases fl with
    | ret u =>
      obtain ⟨v, H2, J2, rv, e, q⟩ := J.after hq
      subst e
      exact ⟨rv, ⟨V.ref (s.heap.objs.size + 1), H2, J2, rfl, q⟩⟩
    | _ => exact hq.elim
end
/-- a def of the text keeps its promise, by its body -/
theorem fok_of {P : Program} {w : World} {K : W.Frag} {mg : Str → Option Value} {base : Heap} {k : Nat} {f : Addr} {nm qn : Str} {pa : Arguments} {bd : List Stmt} {sc : Scope} {dV kV doc pm cdv ct oc : Value} {an od : Option Addr} {osl : Array (Option Value)}
    {N ps : List Str} {sp : Sp} (lk : K.lookup f = some ⟨oc, od, .func (W.fnOf nm qn pa bd sc dV kV doc pm an cdv ct), osl⟩) (hcd : W.codeIn K cdv qn = true) (S : FnScope N ps sc) (len : ∀ vs H Q E, sp vs H Q E → vs.length = ps.length)
    (body : ∀ (B : Around) (fs : List Env) (st : Shared) (H : Hp) (vs : List V) (Q : VK) (E : XK), Room k (B.deeper (PyProof.Rows.envOfC qn sc st.heap.objs.size f cdv)) → B.guards = some [] → sp vs H Q E →
      ∃ t, PSs (cxOf (L2.CX P w) P w K mg base N qn sc f cdv B fs st H E) bd t ∧ t { nx := fun _ H' => Q .non H', rt := Q } (start N vs) H) :
    FOk P w K mg base (k + 1) f (W.fnOf nm qn pa bd sc dV kV doc pm an cdv ct) ps sp := by
  refine ⟨len, fun B fs st H ar us vs Q E hr hg e0 hb r hsp => ?_⟩
  have up : ∀ b o, base.get? b = some o → st.heap.get? b = some o := fun b o z => (e0.bs b o z).1
  have kin : K.In st.heap := e0.mod.kin.keeps up
  have kinds : ∀ y ∈ ps.zip us, sc.names.lookup y.1 = some .local ∨ (sc.names.lookup y.1 = some .cell ∧ ((cellsFrom (st.heap.objs.size + 1) sc.names []).lookup y.1).isSome = true) := by
    rintro ⟨n, v⟩ hy
    rcases S.par n (List.of_mem_zip hy).1 with q | q
    · exact .inl q
    · exact .inr ⟨q, W.cellsFrom_some _ _ _ (.inl q)⟩
  refine codeAny_call_function hr.depth (kin _ _ lk) rfl S.co S.gen rfl (W.codeRec_of kin hcd) (hb _ _ _ _ ?_)
  refine wpAny_newFunctionEnv_cells S.kind kinds fun env he s1 x => ?_
  cases he
  refine ⟨(e0.mod.nolimit.keeps up).keeps x.toInCall.keep, codeAny_func ?_⟩
  obtain ⟨t, ht, hq⟩ := body B fs st H vs Q E (hr.deeper _) hg hsp
  have J := inv_start (CX := L2.CX P w) (E := E) S hr.hd e0 (len _ _ _ _ hsp) r x
  refine wpAny_mono (ht.run [] s1 _ H _ J hq) (fun fl s2 hs => ?_) fun _ _ z => z
  cases fl with
  | ret u =>
    obtain ⟨v, σ', H', J', rv, q⟩ := hs
    exact ⟨v, H', J'.os, J'.bare, J'.base, J'.hok, rv, q⟩
  | next =>
    obtain ⟨σ', H', J', q⟩ := hs
    exact ⟨.non, H', J'.os, J'.bare, J'.base, J'.hok, rfl, q⟩
  | brk => obtain ⟨_, _, _, q⟩ := hs; exact q.elim
  | cont => obtain ⟨_, _, _, q⟩ := hs; exact q.elim
end Q
end
section
set_option autoImplicit false
set_option Elab.async false
set_option linter.all false
set_option maxRecDepth 4000
set_option maxHeartbeats 1000000
/-! Q: from the written text to the trees. -/
namespace Q
open PySem L2

inductive Gv where
  | fn (i : Nat) | cl (c : Nat) | val (d : D)
/-- a shape of a call: which def, how many values, which keywords, the parameters' order -/
structure Sg where
  f : Nat
  n : Nat
  ks : List Str
  perm : List Nat
/-- the names of the module: what they stand for; the ones that the module does not bind -/
structure Gt where
  cls : List Cl
  gl : List (Str × Gv)
  fr : List Str
  sg : List Sg
/-- the names of a def: the slots, the scope that runs, which cells are its own -/
structure Lx where
  N : List Str
  sc : Scope
  fc : Str → Bool
def ixOf (x : Str) : List Str → Option Nat
  | [] => none
  | y :: r => if x = y then some 0 else (ixOf x r).map (· + 1)
def okNm (x : Str) : Bool := !(x == "__debug__") && !(x == "__classdict__") && !(x == "__name__")
def Lx.kd (L : Lx) (x : Str) : Option NameKind := L.sc.names.lookup x
def Lx.vis (L : Lx) (x : Str) : Option Nat := match L.kd x with
  | some .local => ixOf x L.N
  | some .cell => ixOf x L.N
  | some .free => ixOf x L.N
  | _ => none
def Lx.loc (L : Lx) (x : Str) : Option Nat := match L.kd x with
  | some .local => ixOf x L.N
  | some .cell => if L.fc x = true then ixOf x L.N else none
  | _ => none
/-- a global name that is not bound by the module -/
def isFree (G : Gt) (L : Lx) (x : Str) : Bool := okNm x && decide (L.kd x = some .globalImplicit) && decide (x ∈ G.fr)
/-- a global name of the module -/
def globOf (G : Gt) (L : Lx) (x : Str) : Option Gv := if okNm x = true ∧ L.kd x = some .globalImplicit then G.gl.lookup x else none
def sgOf (G : Gt) (f n : Nat) (ks : List Str) : Option (List Nat) := (G.sg.find? fun g => decide (g.f = f ∧ g.n = n ∧ g.ks = ks)).map (·.perm)
/-- the order of a method's parameters: the same in each class that has it -/
def mPerm (G : Gt) (m : Str) (n : Nat) (ks : List Str) : List Cl → Option (List Nat)
  | [] => none
  | k :: r => match k.meths.lookup m with
    | none => mPerm G m n ks r
    | some f => match sgOf G f n ks with
      | none => none
      | some p => if r.all (fun k' => match k'.meths.lookup m with
          | none => true
          | some f' => decide (sgOf G f' n ks = some p)) then some p else none

def isStar : Expr → Bool
  | .Starred _ _ => true
  | _ => false
def isSlice : Expr → Bool
  | .Slice _ _ _ _ => true
  | _ => false
def isCompr : Expr → Bool
  | .ListComp _ _ _ _ => true
  | .SetComp _ _ _ _ => true
  | .DictComp _ _ _ _ _ => true
  | _ => false
def isSetD : Expr → Bool
  | .Set _ _ _ => true
  | _ => false
def isTupD : Expr → Bool
  | .Tuple _ _ _ => true
  | _ => false
def isListD : Expr → Bool
  | .List _ _ => true
  | _ => false
/-- a call without values: what super() looks like -/
def isCall0 : Expr → Bool
  | .Call (.Name _ _) [] [] _ => true
  | _ => false
def constD : Const → Option D
  | .none => some .non
  | .bool b => some (.bl b)
  | .int i => some (.int i)
  | .str x => some (.str x)
  | _ => none
def opOf : Operator → Option Op
  | .Add => some .add
  | .Sub => some .sub
  | .Mult => some .mul
  | .Mod => some .mod
  | .FloorDiv => some .fdiv
  | .Pow => some .pow
  | .BitOr => some .bor
  | .BitAnd => some .band
  | .LShift => some .shl
  | .RShift => some .shr
  | _ => none
def cpOf : CmpOp → Cp
  | .Eq => .eq
  | .NotEq => .ne
  | .Lt => .lt
  | .LtE => .le
  | .Gt => .gt
  | .GtE => .ge
  | .In => .inn
  | .NotIn => .notin
  | .Is => .isN
  | .IsNot => .isntN
def btTab : List ((Str × Nat) × Bt) := [(("len", 1), .len), (("tuple", 1), .tuple), (("list", 1), .list), (("all", 1), .all), (("any", 1), .any), (("int", 1), .int), (("str", 1), .str), (("repr", 1), .repr), (("sum", 1), .sum),
  (("max", 2), .max2), (("min", 2), .min2), (("max", 1), .max1), (("min", 1), .min1)]
def btOf (x : Str) (n : Nat) : Option Bt := btTab.lookup (x, n)
def bmOf (x : Str) (n : Nat) : Option Bm :=
  if x = "append" ∧ n = 1 then some .append
  else if x = "pop" ∧ n = 0 then some .pop
  else if x = "extend" ∧ n = 1 then some .extend
  else if x = "join" ∧ n = 1 then some .join
  else none
/-- a class by its name -/
def tyNm (G : Gt) (L : Lx) (x : Str) : Option Ty := match globOf G L x with
  | some (.cl c) => some (.cls c)
  | _ => if isFree G L x = true then
      if x = "int" then some .int
      else if x = "bool" then some .bool
      else if x = "str" then some .str
      else if x = "tuple" then some .tuple
      else if x = "list" then some .list
      else if x = "dict" then some .dict
      else none
    else none
def tyOf (G : Gt) (L : Lx) : Expr → Option Ty
  | .Name x _ => tyNm G L x
  | _ => none
def ownOf (N : List Str) : List (Str × NameKind) → List (Str × Nat)
  | [] => []
  | (x, k) :: r => match k with
    | .local => match ixOf x N with
      | some i => (x, i) :: ownOf N r
      | none => ownOf N r
    | .cell => match ixOf x N with
      | some i => (x, i) :: ownOf N r
      | none => ownOf N r
    | _ => ownOf N r
def Lx.blk (L : Lx) (scope : Scope) : Lx := ⟨L.N, relS scope L.sc, fun x => scope.names.lookup x == some .cell⟩
def kwNames : List Keyword → Option (List Str)
  | [] => some []
  | ⟨some k, v, _⟩ :: r => if isStar v = true then none else (kwNames r).map (k :: ·)
  | ⟨none, _, _⟩ :: _ => none
def kwVals : List Keyword → List Expr
  | [] => []
  | ⟨_, e, _⟩ :: r => e :: kwVals r
def isMinus1 : Expr → Bool
  | .UnaryOp .USub (.Constant (.int 1) _ _) _ => true
  | _ => false
def zipKV : List (Option Expr) → List Expr → Option (List Expr)
  | [], [] => some []
  | some k :: ks, v :: vs => if isStar k = true ∨ isStar v = true then none else (zipKV ks vs).map fun r => k :: v :: r
  | _, _ => none

section
variable (G : Gt)
mutual
def compE : Nat → Lx → Expr → Option E
  | 0, _, _ => none
  | n + 1, L, e => match e with
    | .Constant c _ _ => (constD c).map .lit
    | .Name x _ => if okNm x = true then
        match L.vis x with
        | some i => some (.slot i)
        | none => match globOf G L x with
          | some (.val d) => some (.lit d)
          | _ => none
      else none
    | .BinOp a op b _ => match opOf op, compE n L a, compE n L b with
      | some o, some x, some y => some (.op o x y)
      | _, _, _ => none
    | .UnaryOp .Not a _ => match compE n L a with
      | some x => some (.nt x)
      | none => none
    | .UnaryOp .USub a _ => match compE n L a with
      | some x => some (.neg x)
      | none => none
    | .BoolOp op vs _ => compB n L op vs
    | .IfExp c a b _ => match compE n L c, compE n L a, compE n L b with
      | some x, some y, some z => some (.ite x y z)
      | _, _, _ => none
    | .Compare a [op] [b] _ => match compE n L a, compE n L b with
      | some x, some y => if isSetD b = true then none else some (.cmp (cpOf op) x y)
      | _, _ => none
    | .Compare a [op, op2] [b, c] _ => match compE n L a, compE n L b, compE n L c with
      | some x, some y, some z => if isSetD b = true ∨ isSetD c = true then none else some (.chain (cpOf op) (cpOf op2) x y z)
      | _, _, _ => none
    | .Tuple es _ _ => match compEs n L es with
      | some xs => some (.tup xs)
      | none => none
    | .List es _ => match compEs n L es with
      | some xs => some (.lst xs)
      | none => none
    | .Dict keys values _ => match zipKV keys values with
      | some kvs => if keys.length ≤ 15 then match compEs n L kvs with
          | some xs => some (.dct xs)
          | none => none
        else none
      | none => none
    | .Subscript a (.Slice lo hi none _) _ => match compE n L a, compO n L lo, compO n L hi with
      | some x, some l, some u => some (.slc x l u)
      | _, _, _ => none
    | .Subscript a (.Slice none none (some st) _) _ => match compE n L a with
      | some x => if isMinus1 st = true then some (.rev x) else none
      | none => none
    | .Subscript a i _ => if isSlice i = true then none else match compE n L a, compE n L i with
      | some x, some y => some (.sub x y)
      | _, _ => none
    | .Attribute a f _ => match compE n L a with
      | some x => if isCall0 a = true then none else some (.fld x f)
      | none => none
    | .Call (.Name f _) args kws _ => match globOf G L f with
      | some (.fn i) => match kwNames kws, compEs n L args, compEs n L (kwVals kws) with
        | some ks, some xs, some ys => if args.any isStar = true then none else (sgOf G i args.length ks).map (.call i xs ys)
        | _, _, _ => none
      | some (.cl c) => match kwNames kws, compEs n L args, compEs n L (kwVals kws), G.cls[c]? with
        | some ks, some xs, some ys, some k => if args.any isStar = true then none else (sgOf G k.init (args.length + 1) ks).map (.mk c xs ys)
        | _, _, _, _ => none
      | some (.val _) => none
      | none => if isFree G L f = true ∧ kws.isEmpty = true then
          if f = "isinstance" then match args with
            | [a, t] => match compE n L a, tyOf G L t with
              | some x, some ty => some (.isi x [ty])
              | _, _ => none
            | _ => none
          else if f = "list" ∨ f = "tuple" then match args with
            | [.Call (.Name g _) [a] [] _] => if isFree G L g = true ∧ g = "range" then match compE n L a with
                | some x => some (.blt (if f = "list" then .listR1 else .tupR1) (.cons x .nil))
                | none => none
              else match compEs n L args with
                | some xs => (btOf f args.length).map fun b => .blt b xs
                | none => none
            | _ => match compEs n L args with
              | some xs => if args.any isStar = true then none else (btOf f args.length).map fun b => .blt b xs
              | none => none
          else match compEs n L args with
            | some xs => if args.any isStar = true then none else (btOf f args.length).map fun b => .blt b xs
            | none => none
        else none
    | .Call (.Attribute o m apos) args kws pos => if isCall0 o = true ∨ args.any isStar = true ∨ ¬ (args.length + kws.length < 25) ∨ apos.endLine ≠ pos.line then none else
      match compE n L o, compEs n L args with
      | some x, some xs => match mPerm G m (args.length + 1) [] G.cls, kws with
        | some p, [] => some (.meth x m xs .nil p)
        | none, [] => (bmOf m args.length).map fun b => .bm b x xs
        | _, kws => match kwNames kws, compEs n L (kwVals kws) with
          | some ks, some ys => (mPerm G m (args.length + 1) ks G.cls).map fun p => .meth x m xs ys p
          | _, _ => none
      | _, _ => none
    | .ListComp elt gens scope _ => match gens with
      | [⟨tg, iter, ifs, asy⟩] =>
        if asy = 0 ∧ blkC L.N L.sc scope (ownOf L.N scope.names) = true ∧ isSetD iter = false then
          match compI n L tg iter, compT n (L.blk scope) tg, compEs n (L.blk scope) ifs, compE n (L.blk scope) elt with
          | some s, some t, some fs, some x => if ifs.length ≤ 1 ∧ ifs.any isStar = false then some (.lc x t s fs ((ownOf L.N scope.names).map (·.2))) else none
          | _, _, _, _ => none
        else none
      | _ => none
    | _ => none
def compB : Nat → Lx → BoolOp → List Expr → Option E
  | 0, _, _, _ => none
  | n + 1, L, op, vs => match vs with
    | [] => none
    | [a] => compE n L a
    | a :: r => match compE n L a, compB n L op r with
      | some x, some y => some (match op with
        | .And => .an x y
        | .Or => .orr x y)
      | _, _ => none
def compEs : Nat → Lx → List Expr → Option Es
  | 0, _, _ => none
  | n + 1, L, es => match es with
    | [] => some .nil
    | .Starred e _ :: r => match compE n L e, compEs n L r with
      | some x, some xs => some (.star x xs)
      | _, _ => none
    | e :: r => match compE n L e, compEs n L r with
      | some x, some xs => some (.cons x xs)
      | _, _ => none
def compO : Nat → Lx → Option Expr → Option Oe
  | 0, _, _ => none
  | n + 1, L, o => match o with
    | none => some .none
    | some e => match compE n L e with
      | some x => some (.some x)
      | none => none
def compT : Nat → Lx → Expr → Option Tg
  | 0, _, _ => none
  | n + 1, L, e => match e with
    | .Name x _ => match L.loc x with
      | some i => some (.name i)
      | none => none
    | .Tuple es _ _ => match compTs n L es with
      | some ts => if es.any isStar = true then none else some (.tup ts)
      | none => none
    | _ => none
def compTs : Nat → Lx → List Expr → Option Tgs
  | 0, _, _ => none
  | n + 1, L, es => match es with
    | [] => some .nil
    | e :: r => match compT n L e, compTs n L r with
      | some t, some ts => some (.cons t ts)
      | _, _ => none
def compI : Nat → Lx → Expr → Expr → Option It
  | 0, _, _, _ => none
  | n + 1, L, tg, e => match e with
    | .Call (.Name f _) [a] [] _ => if isFree G L f = true ∧ f = "range" then
        if isStar a = true then none else match compE n L a with
        | some x => some (.range1 x)
        | none => none
      else match compE n L e with
        | some x => some (.e x)
        | none => none
    | .Call (.Name f _) [a, b] [] _ => if isFree G L f = true ∧ f = "range" then
        if isStar a = true ∨ isStar b = true then none else match compE n L a, compE n L b with
        | some x, some y => some (.range2 x y)
        | _, _ => none
      else match compE n L e with
        | some x => some (.e x)
        | none => none
    | e => match compE n L e with
      | some x => some (.e x)
      | none => none
end
/-- the value of a parallel assignment is kept as it is (no constant tuple) -/
def foldFree (vs : List Expr) : Bool := !(vs.any isStar) && !(vs.all (foldedForSure 8)) && !(vs.all (constantsAlone 8))
/-- names that are stored in the other order: all local, all on one line, all unlike -/
def parNames (L : Lx) (line : Nat) : List Expr → Option (List Str)
  | [] => some []
  | .Name x p :: r => if L.kd x = some .local ∧ p.line = line then (parNames L line r).map (x :: ·) else none
  | _ :: _ => none
def nmL (L : Lx) (line : Nat) : Expr → Option Str
  | .Name id pos => if L.kd id == some .local && pos.line == line then some id else none
  | _ => none
/-- not all plain local names on one line: stored in order -/
def nonPar (L : Lx) (line : Nat) (ts : List Expr) : Bool := (ts.filterMap (nmL L line)).length != ts.length
/-- a target that is no plain local name -/
def swapOne (L : Lx) (y : Str) (py pe : Pos) (scope : Scope) : Bool :=
  decide (L.sc.kind = .function) && decide (L.kd y = some .local) && (py.line == pe.line) && !(scope.names.any fun (n, k) => n == y && (k == .local || k == .cell))
mutual
def compS : Nat → Lx → Stmt → Option S
  | 0, _, _ => none
  | n + 1, L, st => match st with
    | .Expr e _ => if isCompr e = true then none else match compE G n L e with
      | some x => some (.expr x)
      | none => none
    | .Pass _ => some .pass
    | .Return none _ => some (.ret (.lit .non))
    | .Return (some e) _ => match compE G n L e with
      | some x => some (.ret x)
      | none => none
    | .If c a b _ => match compE G n L c, compSs n L a, compSs n L b with
      | some x, some p, some q => some (.iff x p q)
      | _, _, _ => none
    | .While c b [] _ => match compE G n L c, compSs n L b with
      | some x, some p => some (.while_ x p)
      | _, _ => none
    | .For tg iter b [] _ => match compI G n L tg iter, compT G n L tg, compSs n L b with
      | some s, some t, some p => if isSetD iter = true then none else some (.for_ t s p)
      | _, _, _ => none
    | .Raise (some _) none _ => some (.raise_ 0 .nil)
    | .Assign [t] e spos => match t with
      | .Name y py => match L.loc y, compE G n L e with
        | some i, some x => match e with
          | .ListComp _ _ _ _ => some (.set (.name i) x)
          | _ => if isCompr e = true then none else some (.set (.name i) x)
        | _, _ => none
      | .Attribute o f _ => if isCompr e = true then none else match compE G n L e, compE G n L o with
        | some x, some y => some (.set (.fld y f) x)
        | _, _ => none
      | .Subscript o i _ => if isCompr e = true ∨ isSlice i = true then none else match compE G n L e, compE G n L o, compE G n L i with
        | some x, some y, some z => some (.set (.sub y z) x)
        | _, _, _ => none
      | .Tuple ts _ _ => if isCompr e = true then none else match compE G n L e, compT G n L t with
        | some x, some tg => match e with
          | .Tuple vs _ _ => match parNames L (((ts.head?).map (·.pos.line)).getD 0) ts with
            | some xs => if (ts.length = 2 ∨ ts.length = 3) ∧ vs.length = ts.length ∧ foldFree vs = true ∧ xs.eraseDups.length = xs.length ∧ xs.Nodup ∧ L.sc.kind = .function then some (.set tg x) else none
            | none => if nonPar L (((ts.head?).map (·.pos.line)).getD 0) ts = true then some (.set tg x) else none
          | _ => if isListD e = true then none else some (.set tg x)
        | _, _ => none
      | _ => none
    | _ => none
def compSs : Nat → Lx → List Stmt → Option Ss
  | 0, _, _ => none
  | n + 1, L, sts => match sts with
    | [] => some .nil
    | s :: r => match compS n L s, compSs n L r with
      | some x, some xs => some (.cons x xs)
      | _, _ => none
end
end
end Q
end
section
set_option autoImplicit false
set_option Elab.async false
set_option linter.all false
set_option maxRecDepth 4000
set_option maxHeartbeats 1000000
/-! Q: what is known of the written part; the readings that a run gives. -/
namespace Q
open PySem L2

/-! ### a permutation of values -/
def permG {α : Type} (perm : List Nat) (l : List α) : Option (List α) := mapO (fun j => l[j]?) perm
theorem perm_rel {α β : Type} {R : α → β → Prop} {as : List α} {bs : List β} (r : All2 R as bs) : ∀ {perm : List Nat} {es : List β}, permG perm bs = some es → ∃ cs, permG perm as = some cs ∧ All2 R cs es
  | [], es, e => by simp only [permG, mapO, Option.some.injEq] at e; subst e; exact ⟨[], rfl, .nil⟩
  | j :: p, es, e => by
    simp only [permG, mapO] at e
    split at e
    · rename_i b hb
      split at e
      · rename_i l hl
        cases e
        obtain ⟨a, ha, ra⟩ := r.getR hb
        obtain ⟨cs, hc, rc⟩ := perm_rel r (perm := p) hl
        refine ⟨a :: cs, ?_, .cons ra rc⟩
        have hc' : mapO (fun j => as[j]?) p = some cs := hc
        simp only [permG, mapO, ha, hc']
      · cases e
    · cases e
theorem perm_vals {vs : List V} {us : List Value} (r : Vals vs us) : ∀ {perm : List Nat} {zs : List V}, permG perm vs = some zs → ∃ ws, permG perm us = some ws ∧ Vals zs ws
  | [], zs, e => by simp only [permG, mapO, Option.some.injEq] at e; subst e; exact ⟨[], rfl, .nil⟩
  | j :: p, zs, e => by
    simp only [permG, mapO] at e
    split at e
    · rename_i b hb
      split at e
      · rename_i l hl
        cases e
        obtain ⟨a, ha, ra⟩ := r.get hb
        obtain ⟨cs, hc, rc⟩ := perm_vals r (perm := p) hl
        refine ⟨a :: cs, ?_, .cons ra rc⟩
        have hc' : mapO (fun j => us[j]?) p = some cs := hc
        simp only [permG, mapO, ha, hc']
      · cases e
    · cases e

/-! ### the written part -/
/-- where things stand: the classes, the defs, what the defs are -/
structure Tb where
  G : Gt
  fns : List Fn
  fuel : Nat
  cA : Nat → Option Addr
  fA : Nat → Addr
  fd : Nat → FuncData
  ps : Nat → List Str
abbrev Tb.P (T : Tb) : Pg := ⟨T.fns, T.G.cls, T.fuel⟩
abbrev Tb.gm (T : Tb) (P : Program) (w : World) (K : W.Frag) : Gm := ⟨P, w, K, T.cA⟩
/-- the built-in types that values here have -/
def tyNames : List String := ["NoneType", "bool", "int", "str", "tuple", "list", "dict"]
def tyV (cA : Nat → Option Addr) : Ty → Option Value
  | .int => some (.type "int")
  | .bool => some (.type "bool")
  | .str => some (.type "str")
  | .tuple => some (.type "tuple")
  | .list => some (.type "list")
  | .dict => some (.type "dict")
  | .cls c => (cA c).map .ref
/-- what a class of the text must have -/
structure ClOk (K : W.Frag) (T : Tb) (c : Nat) (k : Cl) (C : Addr) : Prop where
  cl : Cls K C
  nf : ∀ f ∈ k.flds, NoAttr K C f
  mt : ∀ m i, k.meths.lookup m = some i → Meth K C m (T.fA i)
  ma : Mk K C (T.fA k.init)
  ne : W.findIn K (.ref C) "__ne__" = some (some (.builtin "object.__ne__"))
  ob : W.mroIn K C (.type "object") = some true
  ca : W.findIn K (.ref C) "__class__" = some (some (.builtin "object.__class__"))
  cn : W.specialIn K (.builtin "object.__class__") "__get__" = some (some (.builtin "getset_descriptor.__get__"))
  ct : W.takesIn K (.builtin "object.__class__") = some true
  no : ∀ n ∈ tyNames, W.kitOne K (.ref C) (.type n) = some false ∧ W.kitOne K (.type n) (.ref C) = some false ∧ W.notFirst K C (.type n) = true
  ow : ∀ c' C', T.cA c' = some C' → W.kitOne K (.ref C') (.ref C) = some (decide (c' = c)) ∧ W.notFirst K C (.ref C') = true
structure Tb.Ok (T : Tb) (K : W.Frag) (mg : Str → Option Value) (base : Heap) : Prop where
  sm : ∃ o, base.get? sysModules = some o
  fr : ∀ x ∈ T.G.fr, mg x = none
  fn : ∀ x i, T.G.gl.lookup x = some (.fn i) → mg x = some (.ref (T.fA i)) ∧ W.keepIn K (.ref (T.fA i)) = true
  cl : ∀ x c, T.G.gl.lookup x = some (.cl c) → ∃ C, T.cA c = some C ∧ mg x = some (.ref C)
  vl : ∀ x d, T.G.gl.lookup x = some (.val d) → ∃ u v, mg x = some u ∧ RelV v u ∧ ∀ ι H, Rv K ι H v d
  ck : ∀ c k C, T.G.cls[c]? = some k → T.cA c = some C → ClOk K T c k C
  cz : ∀ c C, T.cA c = some C → ∃ k, T.G.cls[c]? = some k
  sg : ∀ g ∈ T.G.sg, ∀ (s : Shared) (us ws : List Value), us.length = g.n → ws.length = g.ks.length → ∃ es, permG g.perm (us ++ ws) = some es ∧ es.length = (T.ps g.f).length ∧ BindsTo s (T.fd g.f) ⟨us, g.ks.zip ws⟩ ((T.ps g.f).zip es)
  eqs : ∀ k ∈ T.G.cls, ∀ f, k.meths.lookup ("__eq__" : Str) = some f → sgOf T.G f 2 [] = some [0, 1]
  lens : ∀ k ∈ T.G.cls, ∀ f, k.meths.lookup ("__len__" : Str) = some f → sgOf T.G f 1 [] = some [0]

/-! ### readings -/
/-- what the run of a def promises -/
def spQ (T : Tb) (P : Program) (w : World) (K : W.Frag) (n : Nat) (r : List D → Hh → Res D) : Sp := fun vs H Q E => vs.length = n ∧
  ∃ ι h ds, Rh (T.gm P w K) ι H h ∧ All2 (Rv K ι H) vs ds ∧ Post (T.gm P w K) (fun c d _ H' => E c d H') (Rv K) [] ι H (r ds h) Q
/-- the defs keep their promises, k calls deep -/
def Fns (T : Tb) (P : Program) (w : World) (K : W.Frag) (mg : Str → Option Value) (base : Heap) (k : Nat) : Prop :=
  ∀ i f, T.P.fns[i]? = some f → FOk P w K mg base (2 * k) (T.fA i) (T.fd i) (T.ps i) (spQ T P w K (T.ps i).length (fnAt T.P k i))
/-- what the steps ask of the context -/
structure XOk (T : Tb) (k : Nat) (X : Cx) (W : WX) (L : Lx) : Prop where
  tb : T.Ok X.K X.mg X.base
  fns : Fns T X.prog X.w X.K X.mg X.base k
  hc : X.calm = true
  hg : X.A.guards = some []
  hr : Room (2 * k + 1) X.A
  tk : Takes X W
  nd : X.N.Nodup
  N : X.N = L.N
  sc : X.env.scope = L.sc
  fc : ∀ x, L.fc x = true → X.fn x = true
/-- a run that gives a list of values -/
abbrev Rl (K : W.Frag) : List Addr → Hp → List V → List D → Prop := fun ι H vs ds => All2 (Rv K ι H) vs ds
abbrev Req {α : Type} : List Addr → Hp → α → α → Prop := fun _ _ a b => a = b
section
variable {T : Tb} {k : Nat} {X : Cx} {W : WX} {L : Lx}
theorem XOk.sm (o : XOk T k X W L) : Sm X := o.tb.sm
theorem XOk.un (o : XOk T k X W L) : X.A.units + 200 < cLine := by have := o.hr.un; omega
theorem ixOf_some : ∀ {N : List Str} {x : Str} {i : Nat}, ixOf x N = some i → N[i]? = some x
  | y :: r, x, i, e => by
    simp only [ixOf] at e
    split at e
    · rename_i h; cases e; rw [h]; rfl
    · cases hr : ixOf x r with
      | none => simp [hr] at e
      | some j => simp [hr] at e; subst e; simpa using ixOf_some hr
theorem okNm_ne {x : Str} (e : okNm x = true) : (x == ("__debug__" : Str)) = false ∧ (x == ("__classdict__" : Str)) = false ∧ x ≠ "__name__" := by
  simp only [okNm, Bool.and_eq_true, Bool.not_eq_true'] at e
  exact ⟨e.1.1, e.1.2, fun z => by rw [z] at e; simp at e⟩
theorem XOk.vis (o : XOk T k X W L) {x : Str} {i : Nat} (e : L.vis x = some i) : X.N[i]? = some x ∧ Vis X.env.scope x := by
  unfold Vis
  rw [o.N, o.sc]
  unfold Lx.vis Lx.kd at e
  split at e
  · rename_i h; exact ⟨ixOf_some e, .inl h⟩
  · rename_i h; exact ⟨ixOf_some e, .inr (.inl h)⟩
  · rename_i h; exact ⟨ixOf_some e, .inr (.inr h)⟩
  · cases e
theorem XOk.loc (o : XOk T k X W L) {x : Str} {i : Nat} (e : L.loc x = some i) : X.N[i]? = some x ∧ L2.Loc X.env.scope x ∧ (X.fn x = true ∨ X.env.scope.names.lookup x = some .local) := by
  unfold L2.Loc
  rw [o.N, o.sc]
  unfold Lx.loc Lx.kd at e
  split at e
  · rename_i h; exact ⟨ixOf_some e, .inl h, .inr h⟩
  · rename_i h
    split at e
    · rename_i z; exact ⟨ixOf_some e, .inr h, .inl (o.fc _ z)⟩
    · cases e
  · cases e
theorem XOk.gl (o : XOk T k X W L) {x : Str} (e : L.kd x = some .globalImplicit) : Gl X x := by
  show X.env.scope.names.lookup x = _
  rw [o.sc]
  exact e
theorem XOk.free (o : XOk T k X W L) {x : Str} (e : isFree T.G L x = true) : okNm x = true ∧ Gl X x ∧ X.mg x = none := by
  simp only [isFree, Bool.and_eq_true, decide_eq_true_eq] at e
  exact ⟨e.1.1, o.gl e.1.2, o.tb.fr _ e.2⟩
theorem XOk.glob (o : XOk T k X W L) {x : Str} {g : Gv} (e : globOf T.G L x = some g) : okNm x = true ∧ Gl X x ∧ T.G.gl.lookup x = some g := by
  unfold globOf at e
  split at e
  · rename_i h; exact ⟨h.1, o.gl h.2, e⟩
  · cases e
/-- a weaker reading -/
theorem pe_imp {e : Expr} {t t' : TE} (h : PE X e t) (i : ∀ σ H Q, t' σ H Q → t σ H Q) : PE X e t' := ⟨fun pins s σ H Q I q => h.run pins s σ H Q I (i σ H Q q)⟩
theorem pt_imp {e : Expr} {t t' : TT} (h : PT X e t) (i : ∀ σ H Q, t' σ H Q → t σ H Q) : PT X e t' := ⟨fun pins s σ H Q I q => h.run pins s σ H Q I (i σ H Q q)⟩
theorem pw_imp {e : Expr} {t t' : TT} (h : PW X e t) (i : ∀ σ H Q, t' σ H Q → t σ H Q) : PW X e t' := ⟨fun wh pins s σ H Q I q => h.run wh pins s σ H Q I (i σ H Q q)⟩
theorem pa_imp {e : List Expr} {t t' : TA} (h : PA X e t) (i : ∀ σ H Q, t' σ H Q → t σ H Q) : PA X e t' := ⟨fun pos pins s σ H Q I q => h.run pos pins s σ H Q I (i σ H Q q)⟩
theorem ps_imp {e : Stmt} {t t' : TS} (h : PS X e t) (i : ∀ D σ H, t' D σ H → t D σ H) : PS X e t' := ⟨fun pins s σ H D I q => h.run pins s σ H D I (i D σ H q)⟩
theorem pss_imp {e : List Stmt} {t t' : TS} (h : PSs X e t) (i : ∀ D σ H, t' D σ H → t D σ H) : PSs X e t' := ⟨fun pins s σ H D I q => h.run pins s σ H D I (i D σ H q)⟩
/-- a rule chosen behind the look at what the run gives -/
theorem pe_look {e : Expr} {t' : TE} (i : ∀ σ H Q, t' σ H Q → ∃ t, PE X e t ∧ t σ H Q) : PE X e t' := ⟨fun pins s σ H Q I q => let ⟨_, h, z⟩ := i σ H Q q; h.run pins s σ H Q I z⟩
end
section
variable {α β γ δ : Type} {G : Gm} {W : WX} {Rep : List Addr → Hp → β → α → Prop} {σ : L2.St} {ι : List Addr} {H : Hp} {h : Hh}
theorem Post.toO {r : Option (α × Hh)} {Q : β → Hp → Prop} (p : Post G W Rep σ ι H (liftH r) Q) : PostO G Rep ι H r Q := by
  cases r with
  | none => exact p.elim
  | some a => exact p
theorem Post.lift {r : Option α} {Q : β → Hp → Prop} (p : Post G W Rep σ ι H (lift r h) Q) : ∃ a, r = some a ∧ Post G W Rep σ ι H (.ok a h) Q := by
  cases r with
  | none => exact p.elim
  | some a => exact ⟨a, rfl, p⟩
end
end Q
end
section
set_option autoImplicit false
set_option Elab.async false
set_option linter.all false
set_option maxRecDepth 4000
set_option maxHeartbeats 1000000
/-! Q: == and != of an object by its class's own __eq__; the length by its own __len__. -/
namespace Q
open PySem L2

section
variable {X : Cx} {A : Around} {T : Tb} {k : Nat} {W : WX} {L : Lx} {pins : List (Addr × Obj)} {σ : L2.St} {ι : List Addr} {H : Hp} {h : Hh} {s : Shared} {Q : VK}
/-- a def runs somewhere below, with no error -/
theorem run_at {n : Nat} {f : Addr} {fd : FuncData} {ps : List Str} {sp : Sp} (F : FOk X.prog X.w X.K X.mg X.base n f fd ps sp) (hr : Room n A) (fr : A.frames = X.A.frames) (hg : A.guards = some []) (I : L2.Inv X pins σ H s)
    {pos : List Value} {kw : List (Str × Value)} {us : List Value} {vs : List V} {E : Value → Shared → Prop} (hb : BindsTo s fd ⟨pos, kw⟩ (ps.zip us)) (r : Vals vs us) (hsp : sp vs H Q fun _ _ _ => False) :
    wpAny (model X.prog X.w) A (call (.ref f) pos kw) (EP X pins σ Q) E s := by
  have e0 : Env0 X.prog X.w X.K X.mg X.base A X.stack s H := by
    have e := I.env0
    exact ⟨by rw [fr]; exact e.frames, e.mod, e.bs, e.bsz, e.funs, e.frf, e.hok, e.bare⟩
  refine wpAny_call (codeAny_mono (F.run A X.stack s H ⟨pos, kw⟩ us vs Q _ hr hg e0 hb r hsp) fun res st hq => ?_)
  cases res with
  | error e =>
    obtain ⟨_, _, _, _, _, _, _, _, _, _, _, _, z⟩ := hq
    exact z.elim
  | ok fl =>
    cases fl with
    | ret u => exact I.after hq
    | _ => exact hq.elim
/-- how a call of that shape binds -/
theorem sg_bind (o : T.Ok X.K X.mg X.base) {i n : Nat} {ks : List Str} {p : List Nat} (e : sgOf T.G i n ks = some p) (s : Shared) {us ws : List Value} (h1 : us.length = n) (h2 : ws.length = ks.length) :
    ∃ es, permG p (us ++ ws) = some es ∧ es.length = (T.ps i).length ∧ BindsTo s (T.fd i) ⟨us, ks.zip ws⟩ ((T.ps i).zip es) := by
  unfold sgOf at e
  cases hf : T.G.sg.find? (fun g => decide (g.f = i ∧ g.n = n ∧ g.ks = ks)) with
  | none => rw [hf] at e; cases e
  | some g =>
    rw [hf] at e
    cases e
    have hm : g.f = i ∧ g.n = n ∧ g.ks = ks := by simpa using List.find?_some hf
    obtain ⟨rfl, rfl, rfl⟩ := hm
    exact o.sg g (List.mem_of_find?_eq_some hf) s us ws h1 h2
end

/-! ### != by object.__ne__ -/
section
variable {prog : Program} {w : World} {A : Around} {E : Value → Shared → Prop} {s : Shared} {K : W.Frag} {x C f : Addr} {ox : Obj} {od : Option Obj} {b tb : Value}
theorem ifBound_ne {M : Model} {args : List Value} {Q : Option Value → Shared → Prop} (X : K.In s.heap) (I : W.InstAt s.heap x ox C od) (hs : W.findIn K (.ref C) "__ne__" = some (some (.builtin "object.__ne__")))
    (h : wpAny M A (call (.builtin "object.__ne__") (.ref x :: args)) (fun v => Q (some v)) E s) : wpAny M A (callSpecialIfBound? (.ref x) "__ne__" args) Q E s := by
  simp only [callSpecialIfBound?, bindSpecialIfBound?]
  have last : wpAny M A (call (.builtin "object.__ne__") ([.ref x] ++ args) >>= fun v => pure (some v)) Q E s := wpAny_bind (wpAny_mono h (fun v s' z => wpAny_pure z) fun _ _ z => z)
  refine wpAny_holding (wpAny_bind (wpAny_bind (wpAny_bind (I.type.here ((W.looks_findIn X hs).here (wpAny_bind (wpAny_askSetting (wpAny_ite ?_))))))))
  split
  · exact wpAny_bind (wpAny_of_eq (F.cmp_object.ne.bind _) (wpAny_pure (by exact last)))
  · exact wpAny_tryCatch (wpAny_bind (wpAny_of_eq (F.cmp_object.ne.bind _) (wpAny_pure (by exact last))))
theorem ne_own {R : Bool → Shared → Prop} {Q : Value → Shared → Prop} (hu : A.units + 1 < cLine) (X : K.In s.heap) (I : W.InstAt s.heap x ox C od) (hb : W.Looks (model prog w) s.heap (typeOf b) tb) (hn : W.notFirst K C tb = true)
    (hs : W.findIn K (.ref C) "__ne__" = some (some (.builtin "object.__ne__"))) (ho : W.mroIn K C (.type "object") = some true) (he : W.findIn K (.ref C) "__eq__" = some (some (.ref f))) (hf : W.isFn K (.ref f) = true)
    (h : wpAny (model prog w) A.in1 (call (.ref f) [.ref x, b]) (fun v s' => ∃ c, v = .bool c ∧ R c s') E s) (hq : ∀ c s', R c s' → Q (.bool (!c)) s') : wpAny (model prog w) A (richCompare .NotEq (.ref x) b) Q E s := by
  have one : wpAny (model prog w) A (tryCompare (.ref x) "__ne__" b) (fun r s' => ∃ v, r = some v ∧ Q v s') E s := by
    unfold tryCompare
    refine wpAny_bind (ifBound_ne X I hs (wpAny_call (codeAny_call_builtin F.cmp_object.ne.plain F.cmpEntry_ne (W.check_slot F.cmpKind_ne F.cmpSplit_ne (I.type.andThen (W.looks_mroIn X ho)) (F.cmpArgs_ne _ _) ?_))))
    unfold Builtin.«object.__ne__»
    have two : wpAny (model prog w) A.in1 (callSpecialIfBound? (.ref x) "__eq__" [b]) (fun r s' => ∃ c, r = some (.bool c) ∧ R c s') E s :=
      W.ifBound_K X I he hf (wpAny_mono h (fun v s' z => by obtain ⟨c, rfl, q⟩ := z; exact ⟨c, rfl, q⟩) fun _ _ z => z)
    have hu1 : A.in1.units < cLine := by show A.units + 1 < _; exact hu
    have spec : ∀ Q' : Option Value → Shared → Prop, (∀ c s', R c s' → Q' (some (.bool c)) s') → wpAny (model prog w) A.in1 (callSpecialIfBound? (.ref x) "__eq__" [b]) Q' E s := fun Q' hQ' =>
      wpAny_mono two (fun r s' z => by obtain ⟨c, rfl, q⟩ := z; exact hQ' c s' q) fun _ _ z => z
    repeat (first | with_reducible refine wpAny_cRoomFor hu1 ?_ | with_reducible refine spec _ (fun c s' q => ?_) | wp_step)
    exact ⟨_, rfl, hq _ _ (by assumption)⟩
  unfold richCompare
  simp only [oneThing_ref]
  refine wpAny_holding (wpAny_bind (wpAny_cRoomFor (by omega) (wpAny_bind (I.type.here (wpAny_bind (hb.here ?_))))))
  split
  · rename_i q
    have e : W.subIn K tb (.ref C) = some false := by
      rcases Bool.or_eq_true_iff.mp hn with z | z
      · rw [beq_iff_eq.mp z] at q; simp at q
      · exact beq_iff_eq.mp z
    refine wpAny_bind ((W.looks_subIn X e).here ?_)
    simp only [Bool.false_eq_true, if_false]
    refine wpAny_bind (wpAny_mono one (fun r s' z => ?_) fun _ _ z => z)
    obtain ⟨v, rfl, hv⟩ := z
    exact wpAny_pure hv
  · refine wpAny_bind (wpAny_pure ?_)
    simp only [Bool.false_eq_true, if_false]
    refine wpAny_bind (wpAny_mono one (fun r s' z => ?_) fun _ _ z => z)
    obtain ⟨v, rfl, hv⟩ := z
    exact wpAny_pure hv
end
end Q
end
section
set_option autoImplicit false
set_option Elab.async false
set_option linter.all false
set_option maxRecDepth 4000
set_option maxHeartbeats 1000000
/-! Q: the type of a value; isinstance; comparisons with own ==. -/
namespace Q
open PySem L2

def TyD (T : Tb) (h : Hh) (d : D) (t : Value) : Prop := match d with
  | .non => t = .type "NoneType"
  | .bl _ => t = .type "bool"
  | .int _ => t = .type "int"
  | .str _ => t = .type "str"
  | .tup _ => t = .type "tuple"
  | .ref i => match h[i]? with
    | some (.lst _) => t = .type "list"
    | some (.ro _) => t = .type "list"
    | some (.dct _) => t = .type "dict"
    | some (.obj c _) => ∃ C, T.cA c = some C ∧ t = .ref C
    | _ => False
section
variable {X : Cx} {T : Tb} {k : Nat} {L : Lx} {pins : List (Addr × Obj)} {σ : L2.St} {ι : List Addr} {H : Hp} {h : Hh} {s : Shared} {Q : VK}
theorem kit_all (o : T.Ok X.K X.mg X.base) (I : L2.Inv X pins σ H s) (rh : Rh (gm X T.cA) ι H h) {v : V} {d : D} {u : Value} (rv : Rv X.K ι H v d) (ru : RelV v u) :
    ∃ (t : Value) (P : Heap → Prop), W.KitX X.K u t P ∧ P s.heap ∧ u ≠ .builtin "__main__.__loader__#opaque" ∧ TyD T h d t := by
  have go : ∀ {t : Value}, TyX X.K H v t → TyD T h d t → ∃ (t : Value) (P : Heap → Prop), W.KitX X.K u t P ∧ P s.heap ∧ u ≠ .builtin "__main__.__loader__#opaque" ∧ TyD T h d t := fun {t} ty td => by
    obtain ⟨P, a, b, c⟩ := kit_of I ru ty
    exact ⟨t, P, a, b, c, td⟩
  cases rv with
  | non => exact go (.base .non) rfl
  | bl b => exact go (.base (.bl b)) rfl
  | int i => exact go (.base (.int i)) rfl
  | str x => exact go (.base (.str x)) rfl
  | tup q r =>
    obtain ⟨its, _, ⟨ob, h1, h2, _⟩, _⟩ := I.tuple q
    cases (show u = Value.ref _ from ru)
    exact ⟨_, _, W.kitx_tuple, ⟨ob, h1, h2⟩, (fun z => nomatch z), rfl⟩
  | @ref i a hi =>
    obtain ⟨j, c, hj, hc, rc⟩ := rh.cell (List.mem_of_getElem? hi)
    have hij : i = j := by
      obtain ⟨l1, e1⟩ := List.getElem?_eq_some_iff.mp hi
      obtain ⟨l2, e2⟩ := List.getElem?_eq_some_iff.mp hj
      exact (List.getElem_inj rh.nd).mp (e1.trans e2.symm)
    subst hij
    cases c with
    | lst xs =>
      obtain ⟨vs, ha, _⟩ := rc
      exact go (.base (.lst ha)) (by simp only [TyD, hc])
    | ro xs =>
      obtain ⟨ob, vs, ha, _⟩ := rc
      exact go (.base (.frz ha)) (by simp only [TyD, hc])
    | dct kvs =>
      rcases rc with ⟨ks, ha, _⟩ | ⟨_, _, _, xs, ha, _⟩
      · exact go (.base (.dK ha)) (by simp only [TyD, hc])
      · cases (show u = Value.ref a from ru)
        obtain ⟨⟨ob, es, ep, h1, h2, _⟩, _⟩ := I.hok a _ ha
        exact ⟨_, _, W.kitx_dict, ⟨ob, h1, h2.1⟩, (fun z => nomatch z), by simp only [TyD, hc]⟩
    | set ks => exact rc.elim
    | obj cc fs =>
      obtain ⟨C, dx, vs, hC, ha, _⟩ := rc
      have hC' : T.cA cc = some C := hC
      obtain ⟨kc, hk⟩ := o.cz _ _ hC'
      have q := o.ck _ _ _ hk hC'
      exact go (.base (.ins ha q.cl q.ca q.cn q.ct q.ob)) (by simp only [TyD, hc]; exact ⟨C, hC', rfl⟩)
/-- a built-in type's value, where it is not an own class's -/
theorem ty_names {d : D} {t : Value} (td : TyD T h d t) : (∃ n ∈ tyNames, t = .type n) ∨ ∃ i c fs C, d = .ref i ∧ h[i]? = some (.obj c fs) ∧ T.cA c = some C ∧ t = .ref C := by
  cases d with
  | ref i =>
    simp only [TyD] at td
    split at td
    · exact .inl ⟨_, by simp [tyNames], td⟩
    · exact .inl ⟨_, by simp [tyNames], td⟩
    · exact .inl ⟨_, by simp [tyNames], td⟩
    · rename_i c fs hc
      obtain ⟨C, h1, h2⟩ := td
      exact .inr ⟨i, c, fs, C, rfl, hc, h1, h2⟩
    · exact td.elim
  | _ => exact .inl ⟨_, by simp [tyNames], td⟩
theorem not_first (o : T.Ok X.K X.mg X.base) {d : D} {t : Value} (td : TyD T h d t) {c : Nat} {kc : Cl} {C : Addr} (hk : T.G.cls[c]? = some kc) (hC : T.cA c = some C) : W.notFirst X.K C t = true := by
  have q := o.ck _ _ _ hk hC
  rcases ty_names td with ⟨n, hn, rfl⟩ | ⟨_, c', _, C', _, _, hC', rfl⟩
  · exact (q.no n hn).2.2
  · exact (q.ow c' C' hC').2
theorem kb {n m : String} {r : Bool} (e : kitB n m = some r) {K : W.Frag} : W.kitOne K (.type n) (.type m) = some r := kit_ty e
theorem ref_ty {i : Nat} {t : Value} (td : TyD T h (.ref i) t) : (t = .type "list" ∧ ((∃ xs, h[i]? = some (.lst xs)) ∨ ∃ xs, h[i]? = some (.ro xs))) ∨ (t = .type "dict" ∧ ∃ kvs, h[i]? = some (.dct kvs)) ∨
    ∃ c fs C, h[i]? = some (.obj c fs) ∧ T.cA c = some C ∧ t = .ref C := by
  simp only [TyD] at td
  split at td
  · rename_i xs q; exact .inl ⟨td, .inl ⟨xs, q⟩⟩
  · rename_i xs q; exact .inl ⟨td, .inr ⟨xs, q⟩⟩
  · rename_i xs q; exact .inr (.inl ⟨td, xs, q⟩)
  · rename_i c fs q; obtain ⟨C, h1, h2⟩ := td; exact .inr (.inr ⟨c, fs, C, q, h1, h2⟩)
  · exact td.elim
/-- isinstance's answer -/
theorem isi_one (o : T.Ok X.K X.mg X.base) {d : D} {t c : Value} {ty : Ty} {b : Bool} (td : TyD T h d t) (hc : tyV T.cA ty = some c) (e : isiD h d ty = some b) : W.kitOne X.K t c = some b := by
  have blt : ∀ {n m : String}, t = .type n → c = .type m → kitB n m = some b → W.kitOne X.K t c = some b := fun {n m} h1 h2 h3 => by rw [h1, h2]; exact kit_ty h3
  cases ty with
  | cls cc =>
    simp only [tyV, Option.map_eq_some_iff] at hc
    obtain ⟨C, hC, rfl⟩ := hc
    obtain ⟨kc, hk⟩ := o.cz _ _ hC
    have q := o.ck _ _ _ hk hC
    rcases ty_names td with ⟨n, hn, rfl⟩ | ⟨i, c', fs, C', rfl, hi, hC', rfl⟩
    · have hb : b = false := by
        cases d with
        | ref i =>
          simp only [TyD] at td
          simp only [isiD] at e
          split at td <;> simp_all
        | _ => simpa [isiD] using e.symm
      rw [hb]; exact (q.no n hn).2.1
    · simp only [isiD, hi, Option.some.injEq] at e
      rw [← e]; exact (q.ow c' C' hC').1
  | int =>
    cases hc
    cases d with
    | ref i =>
      cases e
      rcases ref_ty td with ⟨rfl, _⟩ | ⟨rfl, _⟩ | ⟨c', fs, C', _, hC', rfl⟩
      · exact kit_ty (by decide +kernel)
      · exact kit_ty (by decide +kernel)
      · obtain ⟨kc, hk⟩ := o.cz _ _ hC'
        exact ((o.ck _ _ _ hk hC').no _ (by simp [tyNames])).1
    | _ => cases e; exact blt td rfl (by decide +kernel)
  | bool =>
    cases hc
    cases d with
    | ref i =>
      cases e
      rcases ref_ty td with ⟨rfl, _⟩ | ⟨rfl, _⟩ | ⟨c', fs, C', _, hC', rfl⟩
      · exact kit_ty (by decide +kernel)
      · exact kit_ty (by decide +kernel)
      · obtain ⟨kc, hk⟩ := o.cz _ _ hC'
        exact ((o.ck _ _ _ hk hC').no _ (by simp [tyNames])).1
    | _ => cases e; exact blt td rfl (by decide +kernel)
  | str =>
    cases hc
    cases d with
    | ref i =>
      cases e
      rcases ref_ty td with ⟨rfl, _⟩ | ⟨rfl, _⟩ | ⟨c', fs, C', _, hC', rfl⟩
      · exact kit_ty (by decide +kernel)
      · exact kit_ty (by decide +kernel)
      · obtain ⟨kc, hk⟩ := o.cz _ _ hC'
        exact ((o.ck _ _ _ hk hC').no _ (by simp [tyNames])).1
    | _ => cases e; exact blt td rfl (by decide +kernel)
  | tuple =>
    cases hc
    cases d with
    | ref i =>
      cases e
      rcases ref_ty td with ⟨rfl, _⟩ | ⟨rfl, _⟩ | ⟨c', fs, C', _, hC', rfl⟩
      · exact kit_ty (by decide +kernel)
      · exact kit_ty (by decide +kernel)
      · obtain ⟨kc, hk⟩ := o.cz _ _ hC'
        exact ((o.ck _ _ _ hk hC').no _ (by simp [tyNames])).1
    | _ => cases e; exact blt td rfl (by decide +kernel)
  | list =>
    cases hc
    cases d with
    | ref i =>
      simp only [isiD] at e
      rcases ref_ty td with ⟨rfl, ⟨xs, hi⟩ | ⟨xs, hi⟩⟩ | ⟨rfl, xs, hi⟩ | ⟨c', fs, C', hi, hC', rfl⟩
      · simp only [hi, Option.some.injEq] at e; subst e; exact kit_ty (by decide +kernel)
      · simp only [hi, Option.some.injEq] at e; subst e; exact kit_ty (by decide +kernel)
      · simp only [hi, Option.some.injEq] at e; subst e; exact kit_ty (by decide +kernel)
      · simp only [hi, Option.some.injEq] at e
        subst e
        obtain ⟨kc, hk⟩ := o.cz _ _ hC'
        exact ((o.ck _ _ _ hk hC').no _ (by simp [tyNames])).1
    | _ => cases e; exact blt td rfl (by decide +kernel)
  | dict =>
    cases hc
    cases d with
    | ref i =>
      simp only [isiD] at e
      rcases ref_ty td with ⟨rfl, ⟨xs, hi⟩ | ⟨xs, hi⟩⟩ | ⟨rfl, xs, hi⟩ | ⟨c', fs, C', hi, hC', rfl⟩
      · simp only [hi, Option.some.injEq] at e; subst e; exact kit_ty (by decide +kernel)
      · simp only [hi, Option.some.injEq] at e; subst e; exact kit_ty (by decide +kernel)
      · simp only [hi, Option.some.injEq] at e; subst e; exact kit_ty (by decide +kernel)
      · simp only [hi, Option.some.injEq] at e
        subst e
        obtain ⟨kc, hk⟩ := o.cz _ _ hC'
        exact ((o.ck _ _ _ hk hC').no _ (by simp [tyNames])).1
    | _ => cases e; exact blt td rfl (by decide +kernel)

/-! ### calls of a method by an object -/
theorem obj_meth (o : T.Ok X.K X.mg X.base) (rh : Rh (gm X T.cA) ι H h) {v : V} {d : D} {m : Str} {f : Nat} (rv : Rv X.K ι H v d) (e : objM T.P h d m = some f) :
    ∃ (a C dx : Addr) (fs : List (Str × V)) (c : Nat) (kc : Cl), v = .ref a ∧ H a = some (.ins C dx fs) ∧ fs.lookup m = none ∧ T.G.cls[c]? = some kc ∧ T.cA c = some C ∧ kc.meths.lookup m = some f := by
  unfold objM at e
  split at e
  · split at e
    · rename_i c gs hc
      split at e
      · rename_i hn
        obtain ⟨a, rfl, hi, C, dx, vs, hC, ha, rf⟩ := rh.ref rv hc
        unfold Pg.meth at e
        split at e
        · rename_i kc hk
          refine ⟨a, C, dx, vs, c, kc, rfl, ha, ?_, hk, hC, e⟩
          have hn' : gs.lookup m = none := by simpa using hn
          clear hn e ha hi hc
          induction rf with
          | nil => rfl
          | cons r _ ih =>
            rename_i p q _ _ _
            obtain ⟨p1, p2⟩ := p
            obtain ⟨q1, q2⟩ := q
            obtain ⟨e1, _⟩ := r
            cases e1
            rw [List.lookup_cons] at hn' ⊢
            split
            · rename_i z; rw [z] at hn'; cases hn'
            · rename_i z; rw [z] at hn'; exact ih hn'
        · cases e
      · cases e
    · cases e
  · cases e
end
end Q
end
section
set_option autoImplicit false
set_option Elab.async false
set_option linter.all false
set_option maxRecDepth 4000
set_option maxHeartbeats 1000000
/-! Q: comparisons with own ==; isinstance as a call; the built-in calls over own lengths. -/
namespace Q
open PySem L2

abbrev WN : WX := fun _ _ _ _ => False
section
variable {X : Cx} {T : Tb} {k : Nat} {V' : WX} {L : Lx} {pins : List (Addr × Obj)} {σ : L2.St} {ι : List Addr} {H : Hp} {h : Hh} {s : Shared} {Q : VK}
/-- a run that bears no error, as a call's wish -/
theorem Post.calm {α β γ : Type} {G : Gm} {W : WX} {Rep : List Addr → Hp → β → α → Prop} {R2 : List Addr → Hp → β → γ → Prop} {Q : β → Hp → Prop} {r : Res α} {f : α → Hh → Res γ} {E : XK} (p : Post G W R2 σ ι H (r.bindN f) Q) :
    Post G (fun c d _ H' => E c d H') Rep [] ι H r fun b H' => ∃ a ι' h', r = .ok a h' ∧ Ext ι H ι' H' ∧ Rh G ι' H' h' ∧ Rep ι' H' b a ∧ Post G W R2 σ ι' H' (f a h') Q := by
  cases r with
  | ok a h' => exact fun b ι' H' e rh rp => ⟨a, ι', h', rfl, e, rh, rp, Post.later e p⟩
  | exc c fs σ' h' => exact p.elim
  | bad => exact p.elim
theorem Post.wish {α β : Type} {G : Gm} {W : WX} {Rep : List Addr → Hp → β → α → Prop} {Q : β → Hp → Prop} {r : Res α} (p : Post G W Rep σ ι H r Q) : Post G (fun c d _ H' => W c d σ H') Rep [] ι H r Q := by
  cases r with
  | ok a h' => exact p
  | exc c fs σ' h' => exact p
  | bad => exact p
theorem fnAt_fn {P : Pg} {k i : Nat} {ds : List D} {h : Hh} {G : Gm} {W : WX} {β : Type} {Rep : List Addr → Hp → β → D → Prop} {Q : β → Hp → Prop} (p : Post G W Rep σ ι H (fnAt P k i ds h) Q) : ∃ f, P.fns[i]? = some f ∧ ds.length = f.nps := by
  cases k with
  | zero => exact p.elim
  | succ k =>
    unfold fnAt at p
    split at p
    · rename_i f hf
      refine ⟨f, hf, ?_⟩
      unfold runFn at p
      split at p
      · assumption
      · exact p.elim
    · exact p.elim
/-- a value of the two kinds that an own == and an own length see -/
theorem meth_run (o : XOk T k X V' L) (rh : Rh (gm X T.cA) ι H h) {A : Around} (hr : Room (2 * k) A) (fr : A.frames = X.A.frames) (hg : A.guards = some []) (I : L2.Inv X pins σ H s) {f : Nat} {vs : List V} {ds : List D} {us : List Value} {E : Value → Shared → Prop} {pos : List Value}
    (rv : All2 (Rv X.K ι H) vs ds) (ru : Vals vs us) (hb : BindsTo s (T.fd f) ⟨pos, []⟩ ((T.ps f).zip us)) (hl : us.length = (T.ps f).length)
    (p : Post (gm X T.cA) (fun _ _ _ _ => False) (Rv X.K) [] ι H (fnAt T.P k f ds h) Q) : wpAny (model X.prog X.w) A (call (.ref (T.fA f)) pos []) (EP X pins σ Q) E s := by
  obtain ⟨fn, hf, _⟩ := fnAt_fn p
  exact run_at (o.fns f fn hf) hr fr hg I hb ru ⟨by rw [ru.length]; exact hl, ι, h, ds, rh, rv, p⟩
theorem run_own (o : XOk T k X V' L) (rh : Rh (gm X T.cA) ι H h) {A : Around} (hr : Room (2 * k) A) (fr : A.frames = X.A.frames) (hg : A.guards = some []) (I : L2.Inv X pins σ H s) {f n : Nat} {p : List Nat} {vs : List V} {ds : List D} {us : List Value} {E : Value → Shared → Prop}
    (hs : sgOf T.G f n [] = some p) (hn : us.length = n) (hp : permG p us = some us) (rv : All2 (Rv X.K ι H) vs ds) (ru : Vals vs us)
    (q : Post (gm X T.cA) (fun _ _ _ _ => False) (Rv X.K) [] ι H (fnAt T.P k f ds h) Q) : wpAny (model X.prog X.w) A (call (.ref (T.fA f)) us []) (EP X pins σ Q) E s := by
  obtain ⟨es, h1, h2, h3⟩ := sg_bind o.tb hs s (us := us) (ws := []) hn rfl
  rw [List.append_nil, hp] at h1
  cases h1
  exact meth_run o rh hr fr hg I rv ru h3 h2 q
theorem cmpO_ok (o : XOk T k X V' L) (c : Cp) : OpR X (compareOp (cpc c)) (fun x y H Q => ∃ ι h d e, Rh (gm X T.cA) ι H h ∧ Rv X.K ι H x d ∧ Rv X.K ι H y e ∧ Post (gm X T.cA) WN (Rv X.K) [] ι H (cmpO T.P (fnAt T.P k) c d e h) Q) := by
  intro pins s σ H x y v u Q I rx ry hq
  obtain ⟨ι, h, d, e, rh, rd, re, p⟩ := hq
  have un := o.un
  have plain : Post (gm X T.cA) WN (Rv X.K) [] ι H (lift ((cmpD c h d e).map .bl) h) Q → wpAny (model X.prog X.w) X.A (compareOp (cpc c) v u) (EP X pins σ Q) X.xe s := fun p => by
    obtain ⟨g, hg, p⟩ := p.lift
    cases hb : cmpD c h d e with
    | none => rw [hb] at hg; cases hg
    | some b =>
      rw [hb] at hg
      cases hg
      exact cmpD_ok o.sm (by omega) c pins s σ H x y v u Q I rx ry ⟨ι, h, d, e, b, rh, rd, re, hb, p.now rh (.bl b)⟩
  by_cases own : (c = .eq ∨ c = .ne) ∧ isObj h d = true
  · obtain ⟨hc, hd⟩ := own
    cases hm : objM T.P h d "__eq__" with
    | none =>
      rcases hc with rfl | rfl
      · simp only [cmpO, hd, hm] at p; exact p.elim
      · simp only [cmpO, hd, hm] at p; exact p.elim
    | some f =>
      obtain ⟨a, C, dx, fs, cc, kc, rfl, ha, _, hk, hC, hl⟩ := obj_meth o.tb rh rd hm
      cases (show v = Value.ref a from rx)
      have q := o.tb.ck _ _ _ hk hC
      have mt := q.mt _ _ hl
      have hs := o.tb.eqs kc (List.mem_of_getElem? hk) f hl
      obtain ⟨mA, J, _⟩ := ins_get I.hok ha
      obtain ⟨od, J, _⟩ := J.look
      obtain ⟨m, hF⟩ := I.fr
      obtain ⟨t, P, Z, pz, _, td⟩ := kit_all o.tb I rh re ry
      have nf := not_first o.tb td hk hC
      have lk := Z.ty (model X.prog X.w) s.heap I.kIn pz
      have rv : All2 (Rv X.K ι H) [V.ref a, y] [d, e] := .cons rd (.cons re .nil)
      have ru : Vals [V.ref a, y] [Value.ref a, u] := .cons rfl (.cons ry .nil)
      have r1 : Room (2 * k) X.A := o.hr.mono (by omega)
      rcases hc with rfl | rfl
      · simp only [cmpO, hd, hm] at p
        show wpAny (model X.prog X.w) X.A (richCompare .Eq (.ref a) u) _ _ _
        refine W.cmp_K (op := .Eq) (tb := t) (by omega) hF I.ok.mod.kin J lk nf mt.at_ mt.fn ?_
        refine wpAny_mono (run_own (Q := fun z H' => ∃ b, z = .bl b ∧ Q (.bl b) H') o rh r1 rfl o.hg I hs rfl rfl rv ru (p.calm.mono fun z H' hz => ?_)) (fun r s' hr => ?_) fun _ _ z => z
        · obtain ⟨g, ι', h', e1, _, rh', rz, pz⟩ := hz
          clear e1
          cases g <;> try exact pz.elim
          rename_i b
          cases rz
          exact ⟨b, rfl, pz.now rh' (.bl b)⟩
        · obtain ⟨z, H', I', rz, b, rfl, qb⟩ := hr
          cases rz
          exact ⟨.bl b, H', I', rfl, qb⟩
      · simp only [cmpO, hd, hm] at p
        show wpAny (model X.prog X.w) X.A (richCompare .NotEq (.ref a) u) _ _ _
        refine ne_own (R := fun b s' => ∃ H', L2.Inv X pins σ H' s' ∧ Q (.bl (!b)) H') (by omega) I.kIn J lk nf q.ne q.ob mt.at_ mt.fn ?_ fun b s' hb => ?_
        · refine wpAny_mono (run_own (A := X.A.in1) (Q := fun z H' => ∃ b, z = .bl b ∧ Q (.bl (!b)) H') o rh o.hr.in1 rfl o.hg I hs rfl rfl rv ru (p.calm.mono fun z H' hz => ?_)) (fun r s' hr => ?_) fun _ _ z => z
          · obtain ⟨g, ι', h', e1, _, rh', rz, pz⟩ := hz
            clear e1
            cases g <;> try exact pz.elim
            rename_i b
            cases rz
            exact ⟨b, rfl, pz.now rh' (.bl _)⟩
          · obtain ⟨z, H', I', rz, b, rfl, qb⟩ := hr
            cases rz
            exact ⟨b, rfl, H', I', qb⟩
        · obtain ⟨H', I', qb⟩ := hb
          exact ⟨.bl (!b), H', I', rfl, qb⟩
  · refine plain ?_
    have e1 : cmpO T.P (fnAt T.P k) c d e h = lift ((cmpD c h d e).map .bl) h := by
      unfold cmpO
      split
      · rename_i h1 h2; exact absurd ⟨.inl rfl, by assumption⟩ own
      · rename_i h1 h2; exact absurd ⟨.inr rfl, by assumption⟩ own
      · rfl
    rw [e1] at p
    exact p
/-- isinstance(x, T) -/
theorem isi_ok (o : XOk T k X V' L) (rh : Rh (gm X T.cA) ι H h) (I : L2.Inv X pins σ H s) {x : V} {u c : Value} {d : D} {ty : Ty} {b : Bool} {A : Around} {E : Value → Shared → Prop} (rd : Rv X.K ι H x d) (rx : RelV x u) (hc : tyV T.cA ty = some c) (e : isiD h d ty = some b) (q : Q (.bl b) H) :
    wpAny (model X.prog X.w) A (call (.builtin "isinstance") [u, c]) (EP X pins σ Q) E s := by
  obtain ⟨t, P, Z, pz, nu, td⟩ := kit_all o.tb I rh rd rx
  exact W.kia_one Z I.kIn pz (isi_one o.tb td hc e) nu fun tk => ⟨.bl b, H, I.tok tk, rfl, q⟩
end
end Q
end
section
set_option autoImplicit false
set_option Elab.async false
set_option linter.all false
set_option maxRecDepth 4000
set_option maxHeartbeats 1000000
/-! Q: each kind of expression keeps its reading. -/
namespace Q
open PySem L2 PySem.Spec PyProof.Rows

section
variable {α β γ δ : Type} {G : Gm} {W : WX} {Rep : List Addr → Hp → β → α → Prop} {Rep2 : List Addr → Hp → δ → γ → Prop} {σ : L2.St} {ι : List Addr} {H : Hp} {h : Hh} {ds : Sl}
/-- one run behind another, with what the first one gave -/
theorem Post.seqE {r : Res α} {k : α → Hh → Res γ} {Q : δ → Hp → Prop} (p : Post G W Rep2 σ ι H (r.bind k) Q) (rs : Rs G.K ι H σ ds) :
    Post G W Rep σ ι H r fun b H1 => ∃ a ι1 h1, r = .ok a h1 ∧ Ext ι H ι1 H1 ∧ Rh G ι1 H1 h1 ∧ Rs G.K ι1 H1 σ ds ∧ Rep ι1 H1 b a ∧ Post G W Rep2 σ ι1 H1 (k a h1) Q := by
  cases r with
  | ok a h' => exact fun b ι2 H2 e2 rh rp => ⟨a, ι2, h', rfl, e2, rh, rs.ext e2, rp, Post.later e2 p⟩
  | exc c fs s' h' => exact p
  | bad => exact p
end
section
variable (T : Tb) (k : Nat) (X : Cx) (W : WX)
abbrev rE (x : E) : TE := tR (gm X T.cA) W (Rv X.K) (evE T.P (fnAt T.P k) x)
abbrev rB (x : E) : TT := tR (gm X T.cA) W Req (evB T.P (fnAt T.P k) x)
abbrev rA (x : Es) : TA := tR (gm X T.cA) W (Rl X.K) (evEs T.P (fnAt T.P k) x)
abbrev rO (x : Oe) : L2.TO := tR (gm X T.cA) W Req (evO T.P (fnAt T.P k) x)
abbrev rTs (x : Es) : TT := tR (gm X T.cA) W Req (evTs T.P (fnAt T.P k) x)
end
section
variable {T : Tb} {k : Nat} {X : Cx} {W : WX} {L : Lx} {a b c : Expr} {x y z : E} {pos : Pos}
theorem c_var (o : XOk T k X W L) {n : Str} {i : Nat} (e : L.vis n = some i) (hn : okNm n = true) : PE X (.Name n pos) (rE T k X W (.slot i)) := by
  obtain ⟨h1, h2⟩ := o.vis e
  refine pe_imp (pe_var h1 h2 (okNm_ne hn).1 (okNm_ne hn).2.1) fun σ H Q ⟨ι, h, ds, rh, rs, p⟩ => ?_
  obtain ⟨d, hd, p⟩ := Post.lift (r := slotD ds i) p
  unfold slotD at hd
  split at hd
  · rename_i u hu
    subst hd
    obtain ⟨v, hv, rv⟩ := rs.at_ i d hu
    exact ⟨v, hv, p.now rh rv⟩
  · cases hd
theorem c_glob (o : XOk T k X W L) {n : Str} {d : D} (e : globOf T.G L n = some (.val d)) : PE X (.Name n pos) (rE T k X W (.lit d)) := by
  obtain ⟨h1, h2, h3⟩ := o.glob e
  obtain ⟨u, v, hm, r, q⟩ := o.tb.vl n d h3
  exact pe_imp (pe_glob h2 hm r (okNm_ne h1).1) fun σ H Q ⟨ι, h, ds, rh, rs, p⟩ => Post.now (a := d) (h := h) p rh (q ι H)
theorem c_const {cst : Const} {d : D} {j : Nat} (e : constD cst = some d) : PE X (.Constant cst j pos) (rE T k X W (.lit d)) := by
  cases cst <;> simp only [constD, Option.some.injEq, reduceCtorEq] at e <;> subst e
  · exact pe_imp pe_non fun σ H Q ⟨ι, h, ds, rh, rs, p⟩ => Post.now (a := D.non) (h := h) p rh .non
  · rename_i b; exact pe_imp pe_bl fun σ H Q ⟨ι, h, ds, rh, rs, p⟩ => Post.now (a := D.bl b) (h := h) p rh (.bl b)
  · rename_i b; exact pe_imp pe_int fun σ H Q ⟨ι, h, ds, rh, rs, p⟩ => Post.now (a := D.int b) (h := h) p rh (.int b)
  · rename_i b; exact pe_imp pe_str fun σ H Q ⟨ι, h, ds, rh, rs, p⟩ => Post.now (a := D.str b) (h := h) p rh (.str b)
theorem c_op (o : Op) (ha : PE X a (rE T k X W x)) (hb : PE X b (rE T k X W y)) : PE X (.BinOp a (opc o) b pos) (rE T k X W (.op o x y)) := by
  refine pe_imp (pe_op (opD_ok (cA := T.cA) o) ha hb) fun σ H Q ⟨ι, h, ds, rh, rs, p⟩ => ?_
  simp only [evE] at p
  refine ⟨ι, h, ds, rh, rs, (Post.seq p rs).mono ?_⟩
  rintro v H1 ⟨d, ι1, h1, e1, rh1, rs1, rd, p1⟩
  refine ⟨ι1, h1, ds, rh1, rs1, (Post.seq p1 rs1).mono ?_⟩
  rintro w H2 ⟨g, ι2, h2, e2, rh2, rs2, rg, p2⟩
  exact ⟨ι2, h2, d, g, rh2, rd.ext e2, rg, p2.toO⟩
theorem c_neg (ha : PE X a (rE T k X W x)) : PE X (.UnaryOp .USub a pos) (rE T k X W (.neg x)) := by
  refine pe_imp (pe_un un_neg ha) fun σ H Q ⟨ι, h, ds, rh, rs, p⟩ => ?_
  simp only [evE] at p
  refine ⟨ι, h, ds, rh, rs, (Post.seq p rs).mono ?_⟩
  rintro v H1 ⟨d, ι1, h1, e1, rh1, rs1, rd, p1⟩
  cases d <;> try exact p1.elim
  rename_i i
  cases rd
  exact ⟨i, rfl, p1.now rh1 (.int _)⟩
/-- a truth's look -/
theorem c_nt (ha : PE X a (rE T k X W x)) : PE X (.UnaryOp .Not a pos) (rE T k X W (.nt x)) := by
  refine ⟨fun pins s σ H Q I ⟨ι, h, ds, rh, rs, p⟩ => ?_⟩
  simp only [evE] at p
  refine UnaryOp_ (thn (ha.run pins s σ H _ I ⟨ι, h, ds, rh, rs, Post.seq p rs⟩) fun v s1 ⟨x, H1, I1, r1, d, ι1, h1, e1, rh1, rs1, rd, p1⟩ => ?_)
  obtain ⟨g, hg, p2⟩ := p1.lift
  cases ht : truth h1 d with
  | none => rw [ht] at hg; cases hg
  | some t =>
    rw [ht] at hg; cases hg
    exact not_of (thn (truth_ok (cA := T.cA) pins s1 σ H1 x v (fun c H2 => Q (.bl (!c)) H2) I1 r1 ⟨ι1, h1, d, t, rh1, rd, ht, p2.now rh1 (.bl _)⟩) fun c s2 ⟨H2, I2, q2⟩ => ⟨.bl (!c), H2, I2, rfl, q2⟩)
theorem c_an {rest : List Expr} (ha : PE X a (rE T k X W x)) (hb : PE X (.BoolOp .And (b :: rest) pos) (rE T k X W y)) : PE X (.BoolOp .And (a :: b :: rest) pos) (rE T k X W (.an x y)) := by
  refine ⟨fun pins s σ H Q I ⟨ι, h, ds, rh, rs, p⟩ => ?_⟩
  simp only [evE] at p
  refine BoolOp_and (thn (ha.run pins s σ H _ I ⟨ι, h, ds, rh, rs, Post.seq p rs⟩) fun v s1 ⟨xv, H1, I1, r1, d, ι1, h1, e1, rh1, rs1, rd, p1⟩ => ?_)
  cases ht : truth h1 d with
  | none => rw [ht] at p1; exact p1.elim
  | some t =>
    refine thn (truth_ok (cA := T.cA) pins s1 σ H1 xv v (fun c H2 => c = t ∧ H2 = H1) I1 r1 ⟨ι1, h1, d, t, rh1, rd, ht, rfl, rfl⟩) fun c s2 ⟨H2, I2, e1, e2⟩ => ?_
    rw [e2] at I2
    subst e1
    cases c with
    | true => rw [ht] at p1; exact hb.run pins s2 σ H1 Q I2 ⟨ι1, h1, ds, rh1, rs1, p1⟩
    | false => rw [ht] at p1; exact ⟨xv, H1, I2, r1, p1.now rh1 rd⟩
theorem c_orr {rest : List Expr} (ha : PE X a (rE T k X W x)) (hb : PE X (.BoolOp .Or (b :: rest) pos) (rE T k X W y)) : PE X (.BoolOp .Or (a :: b :: rest) pos) (rE T k X W (.orr x y)) := by
  refine ⟨fun pins s σ H Q I ⟨ι, h, ds, rh, rs, p⟩ => ?_⟩
  simp only [evE] at p
  refine BoolOp_or (thn (ha.run pins s σ H _ I ⟨ι, h, ds, rh, rs, Post.seq p rs⟩) fun v s1 ⟨xv, H1, I1, r1, d, ι1, h1, e1, rh1, rs1, rd, p1⟩ => ?_)
  cases ht : truth h1 d with
  | none => rw [ht] at p1; exact p1.elim
  | some t =>
    refine thn (truth_ok (cA := T.cA) pins s1 σ H1 xv v (fun c H2 => c = t ∧ H2 = H1) I1 r1 ⟨ι1, h1, d, t, rh1, rd, ht, rfl, rfl⟩) fun c s2 ⟨H2, I2, e1, e2⟩ => ?_
    rw [e2] at I2
    subst e1
    cases c with
    | true => rw [ht] at p1; exact ⟨xv, H1, I2, r1, p1.now rh1 rd⟩
    | false => rw [ht] at p1; exact hb.run pins s2 σ H1 Q I2 ⟨ι1, h1, ds, rh1, rs1, p1⟩
/-- from a test's run to a value's -/
theorem evB_look {G : Gm} {σ : L2.St} {ι : List Addr} {H : Hp} {h : Hh} {ds : Sl} {γ δ : Type} {R2 : List Addr → Hp → δ → γ → Prop} {Q : δ → Hp → Prop} {P : Pg} {cl : Call} {f : Bool → Hh → Res γ}
    (p : Post G W R2 σ ι H ((evE P cl x ds h).bind fun d h1 => match truth h1 d with | some t => f t h1 | none => .bad) Q) : Post G W R2 σ ι H ((evB P cl x ds h).bind f) Q := by
  unfold evB
  cases he : evE P cl x ds h with
  | ok d h1 =>
    rw [he] at p
    simp only [Res.bind] at p ⊢
    cases ht : truth h1 d with
    | none => rw [ht] at p; exact p.elim
    | some t => rw [ht] at p; exact p
  | exc c fs s' h' => rw [he] at p; exact p
  | bad => rw [he] at p; exact p
theorem c_ite (hc : PT X c (rB T k X W z)) (ha : PE X a (rE T k X W x)) (hb : PE X b (rE T k X W y)) : PE X (.IfExp c a b pos) (rE T k X W (.ite z x y)) := by
  refine pe_imp (pe_ifExp hc ha hb) fun σ H Q ⟨ι, h, ds, rh, rs, p⟩ => ?_
  simp only [evE] at p
  have p' : Post (gm X T.cA) W (Rv X.K) σ ι H ((evB T.P (fnAt T.P k) z ds h).bind fun t h1 => match t with | true => evE T.P (fnAt T.P k) x ds h1 | false => evE T.P (fnAt T.P k) y ds h1) Q := by
    refine evB_look ?_
    refine cast ?_ p
    congr 2
    funext d h1
    cases truth h1 d with
    | none => rfl
    | some t => cases t <;> rfl
  refine ⟨ι, h, ds, rh, rs, (Post.seq p' rs).mono ?_⟩
  rintro t H1 ⟨t', ι1, h1, e1, rh1, rs1, rt, p1⟩
  cases rt
  cases t with
  | true => exact ⟨ι1, h1, ds, rh1, rs1, p1⟩
  | false => exact ⟨ι1, h1, ds, rh1, rs1, p1⟩
theorem c_tup {es : List Expr} {xs : Es} {j : Nat} (h : PA X es (rA T k X W xs)) : PE X (.Tuple es j pos) (rE T k X W (.tup xs)) := by
  refine pe_imp (pe_tup h) fun σ H Q ⟨ι, h, ds, rh, rs, p⟩ => ?_
  simp only [evE] at p
  refine ⟨ι, h, ds, rh, rs, (Post.seq p rs).mono ?_⟩
  rintro vs H1 ⟨gs, ι1, h1, e1, rh1, rs1, rv, p1⟩
  split at p1
  · rename_i hl
    refine ⟨by rw [rv.len]; exact Nat.le_trans hl maxLen_line, fun q hq => ?_⟩
    exact p1 _ ι1 _ (ext_tup hq) (rh1.tup hq) (.tupA (SqT.of upd_same) (ext2 (ext_tup hq) rv))
  · exact p1.elim
theorem c_lst {es : List Expr} {xs : Es} (h : PA X es (rA T k X W xs)) : PE X (.List es pos) (rE T k X W (.lst xs)) := by
  refine pe_imp (pe_lst h) fun σ H Q ⟨ι, h, ds, rh, rs, p⟩ => ?_
  simp only [evE] at p
  refine ⟨ι, h, ds, rh, rs, (Post.seq p rs).mono ?_⟩
  rintro vs H1 ⟨gs, ι1, h1, e1, rh1, rs1, rv, p1⟩
  split at p1
  · rename_i hl
    refine ⟨by rw [rv.len]; exact Nat.le_trans hl maxLen_line, fun q hq => ?_⟩
    exact p1 _ _ _ (ext_cell hq) (rh1.new hq ⟨vs, upd_same, ext2 (ext_cell hq) rv⟩) rh1.newref
  · exact p1.elim
theorem c_slc (o : XOk T k X W L) {lo hi : Option Expr} {l u : Oe} {p2 : Pos} (ha : PE X a (rE T k X W x)) (hl : PO X lo (rO T k X W l)) (hu : PO X hi (rO T k X W u)) : PE X (.Subscript a (.Slice lo hi none p2) pos) (rE T k X W (.slc x l u)) := by
  refine pe_imp (pe_slice (slc_ok (cA := T.cA)) ha hl hu) fun σ H Q ⟨ι, h, ds, rh, rs, p⟩ => ?_
  simp only [evE] at p
  refine ⟨ι, h, ds, rh, rs, (Post.seq p rs).mono ?_⟩
  rintro v H1 ⟨d, ι1, h1, e1, rh1, rs1, rd, p1⟩
  refine ⟨ι1, h1, ds, rh1, rs1, (Post.seq p1 rs1).mono ?_⟩
  rintro w H2 ⟨g, ι2, h2, e2, rh2, rs2, rg, p2⟩
  cases rg
  refine ⟨ι2, h2, ds, rh2, rs2, (Post.seq p2 rs2).mono ?_⟩
  rintro w H3 ⟨g, ι3, h3, e3, rh3, rs3, rg, p3⟩
  cases rg
  exact ⟨ι3, h3, d, rh3, (rd.ext e2).ext e3, p3.toO⟩
theorem c_sub (o : XOk T k X W L) (ha : PE X a (rE T k X W x)) (hb : PE X b (rE T k X W y)) (hs : isSlice b = false) : PE X (.Subscript a b pos) (rE T k X W (.sub x y)) := by
  have un := o.un
  refine pe_imp (pe_ix (sub_ok (cA := T.cA) (by omega)) ha hb (fun _ _ => by cases b <;> first | rfl | cases hs)) fun σ H Q ⟨ι, h, ds, rh, rs, p⟩ => ?_
  simp only [evE] at p
  refine ⟨ι, h, ds, rh, rs, (Post.seq p rs).mono ?_⟩
  rintro v H1 ⟨d, ι1, h1, e1, rh1, rs1, rd, p1⟩
  refine ⟨ι1, h1, ds, rh1, rs1, (Post.seq p1 rs1).mono ?_⟩
  rintro w H2 ⟨g, ι2, h2, e2, rh2, rs2, rg, p2⟩
  obtain ⟨r, hr, p3⟩ := p2.lift
  exact ⟨ι2, h2, d, g, r, rh2, rd.ext e2, rg, hr, fun v rv => p3.now rh2 rv⟩
theorem c_rev {j : Nat} {p1 p2 p3 : Pos} (ha : PE X a (rE T k X W x)) : PE X (.Subscript a (.Slice none none (some (.UnaryOp .USub (.Constant (.int 1) j p1) p2)) p3) pos) (rE T k X W (.rev x)) := by
  refine pe_imp (pe_revL ha) fun σ H Q ⟨ι, h, ds, rh, rs, p⟩ => ?_
  simp only [evE] at p
  refine ⟨ι, h, ds, rh, rs, (Post.seq p rs).mono ?_⟩
  rintro v H1 ⟨d, ι1, h1, e1, rh1, rs1, rd, p1⟩
  cases d <;> try exact p1.elim
  rename_i i
  simp only [revD] at p1
  cases hl : lstOf h1 (.ref i) with
  | none => rw [hl] at p1; exact p1.elim
  | some xs =>
    rw [hl] at p1
    obtain ⟨a, vs, rfl, ha, ra⟩ := lst_of (G := gm X T.cA) rh1 rd hl
    refine ⟨a, vs, rfl, ha, fun q hq => ?_⟩
    exact p1 _ _ _ (ext_cell hq) (rh1.new hq ⟨vs.reverse, upd_same, (ext2 (ext_cell hq) ra).rev⟩) rh1.newref
theorem base_of {o : Expr} {m : Str} {env : Env} (e : isCall0 o = false) : attributeBase o m env (eval o env) = eval o env := by
  unfold attributeBase
  split
  · simp [isCall0] at e
  · rfl
theorem fld_of {G : Gm} {ι : List Addr} {H : Hp} {vs : List (Str × V)} {fs : List (Str × D)} {f : Str} {d : D} (r : All2 (Rf G.K ι H) vs fs) (e : fs.lookup f = some d) : ∃ v, vs.lookup f = some v ∧ Rv G.K ι H v d := by
  induction r with
  | nil => cases e
  | cons q _ ih =>
    rename_i p g _ _ _
    obtain ⟨p1, p2⟩ := p
    obtain ⟨q1, q2⟩ := g
    obtain ⟨e1, r1⟩ := q
    cases e1
    rw [List.lookup_cons] at e ⊢
    split
    · rename_i z; rw [z] at e; cases e; exact ⟨p2, rfl, r1⟩
    · rename_i z; rw [z] at e; exact ih e
theorem c_fld (o : XOk T k X W L) {f : Str} (ha : PE X a (rE T k X W x)) (h0 : isCall0 a = false) : PE X (.Attribute a f pos) (rE T k X W (.fld x f)) := by
  refine pe_imp (pe_fld ha (base_of h0)) fun σ H Q ⟨ι, h, ds, rh, rs, p⟩ => ?_
  simp only [evE] at p
  refine ⟨ι, h, ds, rh, rs, (Post.seq p rs).mono ?_⟩
  rintro v H1 ⟨d, ι1, h1, e1, rh1, rs1, rd, p1⟩
  obtain ⟨r, hr, p2⟩ := p1.lift
  unfold fldD at hr
  split at hr
  · split at hr
    · rename_i cc fs hc
      split at hr
      · rename_i hf
        obtain ⟨a, rfl, hi, C, dx, vs, hC, ha, rf⟩ := rh1.ref rd hc
        obtain ⟨w, hw, rw⟩ := fld_of rf hr
        have hC' : T.cA cc = some C := hC
        obtain ⟨kc, hk⟩ := o.tb.cz _ _ hC'
        have q := o.tb.ck _ _ _ hk hC'
        simp only [okFld, hk] at hf
        exact ⟨a, C, dx, vs, w, rfl, ha, q.cl, q.nf f (by simpa using hf), hw, p2.now rh1 rw⟩
      · cases hr
    · cases hr
  · cases hr
end
end Q
end
section
set_option autoImplicit false
set_option Elab.async false
set_option linter.all false
set_option maxRecDepth 4000
set_option maxHeartbeats 1000000
/-! Q: comparisons, tests, argument lists, displays. -/
namespace Q
open PySem L2 PySem.Spec PyProof.Rows

section
variable {α β γ δ : Type} {G : Gm} {W W' : WX} {Rep : List Addr → Hp → β → α → Prop} {σ σ' : L2.St} {ι : List Addr} {H : Hp} {h : Hh} {ds : Sl}
theorem bind_bind {α β γ : Type} (r : Res α) (f : α → Hh → Res β) (g : β → Hh → Res γ) : (r.bind f).bind g = r.bind fun a h => (f a h).bind g := by cases r <;> rfl
/-- a comparison gives a bool, or nothing -/
theorem cmpO_bl (P : Pg) (call : Call) (c : Cp) (d e : D) (h : Hh) : cmpO P call c d e h = .bad ∨ ∃ b h', cmpO P call c d e h = .ok (.bl b) h' := by
  have viaN : ∀ (r : Res D) (f : Bool → Bool) (g : D → Hh → Res D), (∀ d h', g d h' = .bad ∨ ∃ k, g d h' = .ok (.bl k) h') → r.bindN g = .bad ∨ ∃ b h', r.bindN g = .ok (.bl b) h' := by
    intro r f g hg
    cases r with
    | ok a h' =>
      rcases hg a h' with z | ⟨k, z⟩
      · exact .inl z
      · exact .inr ⟨k, h', z⟩
    | _ => exact .inl rfl
  unfold cmpO
  split
  · split
    · exact viaN _ (fun b => b) _ fun d h' => by cases d <;> first | exact .inl rfl | exact .inr ⟨_, rfl⟩
    · exact .inl rfl
  · split
    · exact viaN _ (fun b => b) _ fun d h' => by cases d <;> first | exact .inl rfl | exact .inr ⟨_, rfl⟩
    · exact .inl rfl
  · generalize cmpD _ h d e = r
    cases r with
    | none => exact .inl rfl
    | some b => exact .inr ⟨b, h, rfl⟩
theorem Post.cmp {P : Pg} {call : Call} {c : Cp} {d e : D} {Rp : List Addr → Hp → β → D → Prop} {Q : β → Hp → Prop} (p : Post G W Rp σ ι H (cmpO P call c d e h) Q) : Post G WN Rp [] ι H (cmpO P call c d e h) Q := by
  rcases cmpO_bl P call c d e h with z | ⟨b, h', z⟩
  · rw [z] at p; exact p.elim
  · rw [z] at p ⊢; exact p
end
section
variable {T : Tb} {k : Nat} {X : Cx} {W : WX} {L : Lx} {a b c : Expr} {x y z : E} {pos : Pos} {es : List Expr} {xs : Es}
theorem marks {o : CmpOp} (h : isSetD b = false) : behindInMarks o b = false := by cases b <;> first | rfl | cases h
theorem cpc_of (o : CmpOp) : cpc (cpOf o) = o := by cases o <;> rfl
theorem c_cmp (o : XOk T k X W L) (p : Cp) (ha : PE X a (rE T k X W x)) (hb : PE X b (rE T k X W y)) (hs : isSetD b = false) : PE X (.Compare a [cpc p] [b] pos) (rE T k X W (.cmp p x y)) := by
  refine pe_imp (pe_cmpR (cmpO_ok o p) ha hb (marks hs)) fun σ H Q ⟨ι, h, ds, rh, rs, p⟩ => ?_
  simp only [evE] at p
  refine ⟨ι, h, ds, rh, rs, (Post.seq p rs).mono ?_⟩
  rintro v H1 ⟨d, ι1, h1, e1, rh1, rs1, rd, p1⟩
  refine ⟨ι1, h1, ds, rh1, rs1, (Post.seq p1 rs1).mono ?_⟩
  rintro w H2 ⟨g, ι2, h2, e2, rh2, rs2, rg, p2⟩
  exact ⟨ι2, h2, d, g, rh2, rd.ext e2, rg, p2.cmp⟩
theorem t_cmp (o : XOk T k X W L) (p : Cp) (ha : PE X a (rE T k X W x)) (hb : PE X b (rE T k X W y)) (hs : isSetD b = false) : PT X (.Compare a [cpc p] [b] pos) (rB T k X W (.cmp p x y)) := by
  refine pt_imp (pt_cmpR (cmpO_ok o p) ha hb (marks hs)) fun σ H Q ⟨ι, h, ds, rh, rs, p⟩ => ?_
  simp only [evB, evE, bind_bind] at p
  refine ⟨ι, h, ds, rh, rs, (Post.seq p rs).mono ?_⟩
  rintro v H1 ⟨d, ι1, h1, e1, rh1, rs1, rd, p1⟩
  refine ⟨ι1, h1, ds, rh1, rs1, (Post.seq p1 rs1).mono ?_⟩
  rintro w H2 ⟨g, ι2, h2, e2, rh2, rs2, rg, p2⟩
  refine ⟨ι2, h2, d, g, rh2, rd.ext e2, rg, ?_⟩
  rcases cmpO_bl T.P (fnAt T.P k) _ d g h2 with z | ⟨b, h', z⟩
  · rw [z] at p2; exact p2.elim
  · rw [z] at p2 ⊢
    intro bv ι' H' e' rh' rb
    cases rb
    exact ⟨b, rfl, p2 b ι' H' e' rh' rfl⟩
theorem c_chain (o : XOk T k X W L) (p q : Cp) (ha : PE X a (rE T k X W x)) (hb : PE X b (rE T k X W y)) (hc : PE X c (rE T k X W z)) (hs : isSetD c = false) : PE X (.Compare a [cpc p, cpc q] [b, c] pos) (rE T k X W (.chain p q x y z)) := by
  have un := o.un
  refine pe_imp (pe_chain (cmpD_ok (cA := T.cA) o.sm (by omega) p) (cmpD_ok (cA := T.cA) o.sm (by omega) q) ha hb hc (marks hs)) fun σ H Q ⟨ι, h, ds, rh, rs, p⟩ => ?_
  simp only [evE] at p
  refine ⟨ι, h, ds, rh, rs, (Post.seq p rs).mono ?_⟩
  rintro v H1 ⟨d, ι1, h1, e1, rh1, rs1, rd, p1⟩
  refine ⟨ι1, h1, ds, rh1, rs1, (Post.seq p1 rs1).mono ?_⟩
  rintro w H2 ⟨g, ι2, h2, e2, rh2, rs2, rg, p2⟩
  split at p2
  · exact p2.elim
  · rename_i hz
    exact ⟨ι2, h2, d, g, false, rh2, rd.ext e2, rg, hz, false, rfl, p2.now rh2 (.bl false)⟩
  · rename_i hz
    refine ⟨ι2, h2, d, g, true, rh2, rd.ext e2, rg, hz, true, rfl, ?_⟩
    rw [if_pos rfl]
    refine ⟨ι2, h2, ds, rh2, rs2, (Post.seq p2 rs2).mono ?_⟩
    rintro u H3 ⟨f, ι3, h3, e3, rh3, rs3, rf, p3⟩
    obtain ⟨r, hr, p4⟩ := p3.lift
    cases hq : cmpD q h3 g f with
    | none => rw [hq] at hr; cases hr
    | some t =>
      rw [hq] at hr; cases hr
      exact ⟨ι3, h3, g, f, t, rh3, rg.ext e3, rf, hq, p4.now rh3 (.bl t)⟩
theorem t_chain (o : XOk T k X W L) (p q : Cp) (ha : PE X a (rE T k X W x)) (hb : PE X b (rE T k X W y)) (hc : PE X c (rE T k X W z)) (hs : isSetD c = false) : PT X (.Compare a [cpc p, cpc q] [b, c] pos) (rB T k X W (.chain p q x y z)) := by
  have un := o.un
  refine pt_imp (pt_chain (cmpD_ok (cA := T.cA) o.sm (by omega) p) (cmpD_ok (cA := T.cA) o.sm (by omega) q) ha hb hc (marks hs)) fun σ H Q ⟨ι, h, ds, rh, rs, p⟩ => ?_
  simp only [evB, evE, bind_bind] at p
  refine ⟨ι, h, ds, rh, rs, (Post.seq p rs).mono ?_⟩
  rintro v H1 ⟨d, ι1, h1, e1, rh1, rs1, rd, p1⟩
  refine ⟨ι1, h1, ds, rh1, rs1, (Post.seq p1 rs1).mono ?_⟩
  rintro w H2 ⟨g, ι2, h2, e2, rh2, rs2, rg, p2⟩
  cases hz : cmpD _ h2 d g with
  | none => rw [hz] at p2; exact p2.elim
  | some t =>
    rw [hz] at p2
    cases t with
    | false => exact ⟨ι2, h2, d, g, false, rh2, rd.ext e2, rg, hz, false, rfl, false, rfl, Post.now (a := false) (h := h2) p2 rh2 rfl⟩
    | true =>
      refine ⟨ι2, h2, d, g, true, rh2, rd.ext e2, rg, hz, true, rfl, ?_⟩
      rw [if_pos rfl]
      simp only [bind_bind] at p2
      refine ⟨ι2, h2, ds, rh2, rs2, (Post.seq p2 rs2).mono ?_⟩
      rintro u H3 ⟨f, ι3, h3, e3, rh3, rs3, rf, p3⟩
      cases hq : cmpD q h3 g f with
      | none => rw [hq] at p3; exact p3.elim
      | some t =>
        rw [hq] at p3
        exact ⟨ι3, h3, g, f, t, rh3, rg.ext e3, rf, hq, t, rfl, Post.now (a := t) (h := h3) p3 rh3 rfl⟩
/-! ### tests -/
theorem t_plain (ha : PE X a (rE T k X W x)) (he : ∀ whole, isTrue a X.env whole = (do let v ← whole; standAt a.pos; holding [v] (truthy v))) : PT X a (rB T k X W x) := by
  refine ⟨fun pins s σ H Q I ⟨ι, h, ds, rh, rs, p⟩ => ?_⟩
  simp only [evB] at p
  refine isTrue_plain (thn (ha.run pins s σ H _ I ⟨ι, h, ds, rh, rs, Post.seq p rs⟩) fun v s1 ⟨xv, H1, I1, r1, d, ι1, h1, e1, rh1, rs1, rd, p1⟩ => ?_) (he _)
  obtain ⟨t, ht, p2⟩ := p1.lift
  exact truth_ok (cA := T.cA) pins s1 σ H1 xv v Q I1 r1 ⟨ι1, h1, d, t, rh1, rd, ht, p2.now rh1 rfl⟩
theorem t_nt (ha : PT X a (rB T k X W x)) : PT X (.UnaryOp .Not a pos) (rB T k X W (.nt x)) := by
  refine pt_imp (pt_not ha) fun σ H Q ⟨ι, h, ds, rh, rs, p⟩ => ?_
  simp only [evB, evE, bind_bind] at p
  have p' : Post (gm X T.cA) W Req σ ι H ((evB T.P (fnAt T.P k) x ds h).bind fun t h1 => .ok (!t) h1) Q := by
    refine evB_look ?_
    refine cast ?_ p
    congr 2
    funext d h1
    cases truth h1 d with
    | none => rfl
    | some t => cases t <;> rfl
  refine ⟨ι, h, ds, rh, rs, (Post.seq (Rep := Req) p' rs).mono ?_⟩
  rintro t H1 ⟨t', ι1, h1, e1, rh1, rs1, rt, p1⟩
  cases rt
  exact p1.now rh1 rfl
theorem w_one {op : BoolOp} (ha : PT X a (rB T k X W x)) : PW X (.BoolOp op [a] pos) (rB T k X W x) := by
  cases op with
  | And => exact pw_and1 ha
  | Or => exact pw_or1 ha
theorem w_and {rest : List Expr} (ha : PT X a (rB T k X W x)) (hb : PW X (.BoolOp .And (b :: rest) pos) (rB T k X W y)) : PW X (.BoolOp .And (a :: b :: rest) pos) (rB T k X W (.an x y)) := by
  refine pw_imp (pw_and ha hb) fun σ H Q ⟨ι, h, ds, rh, rs, p⟩ => ?_
  simp only [evB, evE, bind_bind] at p
  have p' : Post (gm X T.cA) W Req σ ι H ((evB T.P (fnAt T.P k) x ds h).bind fun t h1 => match t with | true => evB T.P (fnAt T.P k) y ds h1 | false => .ok false h1) Q := by
    refine evB_look ?_
    refine cast ?_ p
    congr 2
    funext d h1
    cases ht : truth h1 d with
    | none => rfl
    | some t => cases t <;> simp [Res.bind, evB, lift, ht]
  refine ⟨ι, h, ds, rh, rs, (Post.seq (Rep := Req) p' rs).mono ?_⟩
  rintro t H1 ⟨t', ι1, h1, e1, rh1, rs1, rt, p1⟩
  cases rt
  cases t with
  | true => exact ⟨ι1, h1, ds, rh1, rs1, p1⟩
  | false => exact Post.now (a := false) (h := h1) p1 rh1 rfl
theorem w_or {rest : List Expr} (ha : PT X a (rB T k X W x)) (hb : PW X (.BoolOp .Or (b :: rest) pos) (rB T k X W y)) : PW X (.BoolOp .Or (a :: b :: rest) pos) (rB T k X W (.orr x y)) := by
  refine pw_imp (pw_or ha hb) fun σ H Q ⟨ι, h, ds, rh, rs, p⟩ => ?_
  simp only [evB, evE, bind_bind] at p
  have p' : Post (gm X T.cA) W Req σ ι H ((evB T.P (fnAt T.P k) x ds h).bind fun t h1 => match t with | true => .ok true h1 | false => evB T.P (fnAt T.P k) y ds h1) Q := by
    refine evB_look ?_
    refine cast ?_ p
    congr 2
    funext d h1
    cases ht : truth h1 d with
    | none => rfl
    | some t => cases t <;> simp [Res.bind, evB, lift, ht]
  refine ⟨ι, h, ds, rh, rs, (Post.seq (Rep := Req) p' rs).mono ?_⟩
  rintro t H1 ⟨t', ι1, h1, e1, rh1, rs1, rt, p1⟩
  cases rt
  cases t with
  | false => exact ⟨ι1, h1, ds, rh1, rs1, p1⟩
  | true => exact Post.now (a := true) (h := h1) p1 rh1 rfl
theorem t_ite (hc : PT X c (rB T k X W z)) (ha : PT X a (rB T k X W x)) (hb : PT X b (rB T k X W y)) : PT X (.IfExp c a b pos) (rB T k X W (.ite z x y)) := by
  refine ⟨fun pins s σ H Q I ⟨ι, h, ds, rh, rs, p⟩ => ?_⟩
  simp only [evB, evE, bind_bind] at p
  have p' : Post (gm X T.cA) W Req σ ι H ((evB T.P (fnAt T.P k) z ds h).bind fun t h1 => match t with | true => evB T.P (fnAt T.P k) x ds h1 | false => evB T.P (fnAt T.P k) y ds h1) Q := by
    refine evB_look ?_
    refine cast ?_ p
    congr 2
    funext d h1
    cases ht : truth h1 d with
    | none => rfl
    | some t => cases t <;> simp [Res.bind, evB]
  refine isTrue_IfExp (thn (hc.run pins s σ H _ I ⟨ι, h, ds, rh, rs, Post.seq (Rep := Req) p' rs⟩) fun t s1 ⟨H1, I1, t', ι1, h1, e1, rh1, rs1, rt, p1⟩ => ?_)
  cases rt
  cases t with
  | true => exact ha.run pins s1 σ H1 Q I1 ⟨ι1, h1, ds, rh1, rs1, p1⟩
  | false => exact hb.run pins s1 σ H1 Q I1 ⟨ι1, h1, ds, rh1, rs1, p1⟩
/-! ### argument lists -/
theorem star_not {e : Expr} (h : isStar e = false) {es : List Expr} {env : Env} : starEach (e :: es) env = (false, eval e env) :: starEach es env := by cases e <;> first | rfl | cases h
theorem a_nil : PA X [] (rA T k X W .nil) := pa_imp pa_nil fun σ H Q ⟨ι, h, ds, rh, rs, p⟩ => Post.now (a := ([] : List D)) (h := h) p rh .nil
theorem a_cons {e : Expr} (hs : isStar e = false) (he : PE X e (rE T k X W x)) (hr : PA X es (rA T k X W xs)) : PA X (e :: es) (rA T k X W (.cons x xs)) := by
  refine pa_imp (pa_cons he hr (star_not hs)) fun σ H Q ⟨ι, h, ds, rh, rs, p⟩ => ?_
  simp only [evEs] at p
  refine ⟨ι, h, ds, rh, rs, (Post.seq p rs).mono ?_⟩
  rintro v H1 ⟨d, ι1, h1, e1, rh1, rs1, rd, p1⟩
  refine ⟨ι1, h1, ds, rh1, rs1, (Post.seq p1 rs1).mono ?_⟩
  rintro w H2 ⟨g, ι2, h2, e2, rh2, rs2, rg, p2⟩
  exact p2.now rh2 (.cons (rd.ext e2) rg)
theorem a_star {e : Expr} {p0 : Pos} (he : PE X e (rE T k X W x)) (hr : PA X es (rA T k X W xs)) : PA X (.Starred e p0 :: es) (rA T k X W (.star x xs)) := by
  refine pa_imp (StX.pa_star he hr) fun σ H Q ⟨ι, h, ds, rh, rs, p⟩ => ?_
  simp only [evEs] at p
  refine ⟨ι, h, ds, rh, rs, (Post.seq p rs).mono ?_⟩
  rintro v H1 ⟨d, ι1, h1, e1, rh1, rs1, rd, p1⟩
  cases hi : itemsOf h1 d with
  | none => rw [hi] at p1; exact p1.elim
  | some ys =>
    rw [hi] at p1
    have two : ∃ a vs, v = .ref a ∧ (SqT X.K H1 a vs ∨ SqL X.K H1 a vs) ∧ All2 (Rv X.K ι1 H1) vs ys := by
      cases d with
      | tup zs =>
        cases hi
        obtain ⟨a, vs, e, q, r⟩ := rd.of_tup
        exact ⟨a, vs, e, .inl q, r⟩
      | ref i =>
        obtain ⟨a, vs, e, q, r⟩ := lst_of (G := gm X T.cA) rh1 rd (show lstOf h1 (.ref i) = some ys from hi)
        exact ⟨a, vs, e, .inr q, r⟩
      | _ => simp [itemsOf, lstOf] at hi
    obtain ⟨a, vs, rfl, q, r⟩ := two
    refine ⟨a, vs, rfl, q, ι1, h1, ds, rh1, rs1, (Post.seq p1 rs1).mono ?_⟩
    rintro w H2 ⟨g, ι2, h2, e2, rh2, rs2, rg, p2⟩
    exact p2.now rh2 ((ext2 e2 r).app rg)
theorem k_nil : PK X [] (rA T k X W .nil) := ⟨fun pos pins s σ H Q I ⟨ι, h, ds, rh, rs, p⟩ => pk_nil.run pos pins s σ H Q I (Post.now (a := ([] : List D)) (h := h) p rh .nil)⟩
theorem k_cons {e : Expr} {nm : Option Str} {kpos : Pos} {kws : List Keyword} (he : PE X e (rE T k X W x)) (hr : PK X kws (rA T k X W xs)) : PK X (⟨nm, e, kpos⟩ :: kws) (rA T k X W (.cons x xs)) := by
  refine ⟨fun pos pins s σ H Q I ⟨ι, h, ds, rh, rs, p⟩ => (pk_cons he hr).run pos pins s σ H Q I ?_⟩
  simp only [evEs] at p
  refine ⟨ι, h, ds, rh, rs, (Post.seq p rs).mono ?_⟩
  rintro v H1 ⟨d, ι1, h1, e1, rh1, rs1, rd, p1⟩
  refine ⟨ι1, h1, ds, rh1, rs1, (Post.seq p1 rs1).mono ?_⟩
  rintro w H2 ⟨g, ι2, h2, e2, rh2, rs2, rg, p2⟩
  exact p2.now rh2 (.cons (rd.ext e2) rg)
theorem o_none : PO X none (rO T k X W .none) := ⟨fun pins s σ H Q I ⟨ι, h, ds, rh, rs, p⟩ => po_none.run pins s σ H Q I (Post.now (a := (none : Option Int)) (h := h) p rh rfl)⟩
theorem o_some {e : Expr} (he : PE X e (rE T k X W x)) : PO X (some e) (rO T k X W (.some x)) := by
  refine ⟨fun pins s σ H Q I ⟨ι, h, ds, rh, rs, p⟩ => (po_some he).run pins s σ H Q I ?_⟩
  simp only [evO] at p
  refine ⟨ι, h, ds, rh, rs, (Post.seq p rs).mono ?_⟩
  rintro v H1 ⟨d, ι1, h1, e1, rh1, rs1, rd, p1⟩
  cases d <;> try exact p1.elim
  rename_i i
  cases rd
  exact ⟨i, rfl, p1.now rh1 rfl⟩
end
end Q
end
section
set_option autoImplicit false
set_option Elab.async false
set_option linter.all false
set_option maxRecDepth 4000
set_option maxHeartbeats 1000000
/-! Q: calls: defs, classes, methods, built-in functions and methods; dict displays. -/
namespace Q
open PySem L2 PySem.Spec PyProof.Rows

/-! ### what is seen of a written list of arguments -/
theorem args_plain {env : Env} {pos : Pos} : ∀ {args : List Expr}, args.any isStar = false → (backTo pos (starEach args env)).any (·.1) = false ∧ (backTo pos (starEach args env)).all (fun x => !x.1) = true
  | [], _ => ⟨rfl, rfl⟩
  | e :: r, h => by
    simp only [List.any_cons, Bool.or_eq_false_iff] at h
    obtain ⟨i1, i2⟩ := args_plain (env := env) (pos := pos) h.2
    rw [star_not h.1]
    exact ⟨by show (false || (backTo pos (starEach r env)).any (·.1)) = false; rw [i1]; rfl, by show (true && (backTo pos (starEach r env)).all (fun x => !x.1)) = true; rw [i2]; rfl⟩
theorem kw_plain {env : Env} {pos : Pos} : ∀ {kws : List Keyword} {ks : List Str}, kwNames kws = some ks → (backToKw pos (keywordEach kws env)).all (·.1.isSome) = true ∧ (backToKw pos (keywordEach kws env)).any (·.1.isNone) = false ∧ (backToKw pos (keywordEach kws env)).filterMap (·.1) = ks
  | [], ks, e => by cases e; exact ⟨rfl, rfl, rfl⟩
  | ⟨some n, v, p⟩ :: r, ks, e => by
    simp only [kwNames] at e
    split at e
    · cases e
    simp only [Option.map_eq_some_iff] at e
    obtain ⟨ks', e', rfl⟩ := e
    obtain ⟨i1, i2, i3⟩ := kw_plain (env := env) (pos := pos) e'
    refine ⟨?_, ?_, ?_⟩
    · show (true && (backToKw pos (keywordEach r env)).all (·.1.isSome)) = true; rw [i1]; rfl
    · show (false || (backToKw pos (keywordEach r env)).any (·.1.isNone)) = false; rw [i2]; rfl
    · show n :: (backToKw pos (keywordEach r env)).filterMap (·.1) = n :: ks'; rw [i3]
  | ⟨none, v, p⟩ :: r, ks, e => by cases e
theorem kw_len : ∀ {kws : List Keyword} {ks : List Str}, kwNames kws = some ks → (kwVals kws).length = ks.length ∧ kws.length = ks.length
  | [], ks, e => by cases e; exact ⟨rfl, rfl⟩
  | ⟨some n, v, p⟩ :: r, ks, e => by
    simp only [kwNames] at e
    split at e
    · cases e
    simp only [Option.map_eq_some_iff] at e
    obtain ⟨ks', e', rfl⟩ := e
    obtain ⟨a, b⟩ := kw_len e'
    exact ⟨by simp [kwVals, a], by simp [b]⟩
  | ⟨none, v, p⟩ :: r, ks, e => by cases e
/-- how many values a list without stars gives -/
def Es.cnt : Es → Option Nat
  | .nil => some 0
  | .cons _ r => r.cnt.map (· + 1)
  | .star _ _ => none
theorem evEs_cnt {P : Pg} {cl : Call} {σ : Sl} : ∀ {xs : Es} {n : Nat} {h h' : Hh} {gs : List D}, xs.cnt = some n → evEs P cl xs σ h = .ok gs h' → gs.length = n
  | .nil, n, h, h', gs, e, q => by
    simp only [Es.cnt, Option.some.injEq] at e
    simp only [evEs, Res.ok.injEq] at q
    rw [← q.1, ← e]; rfl
  | .cons x r, n, h, h', gs, e, q => by
    simp only [Es.cnt, Option.map_eq_some_iff] at e
    obtain ⟨m, em, rfl⟩ := e
    simp only [evEs] at q
    cases h1 : evE P cl x σ h with
    | ok d h2 =>
      rw [h1] at q
      simp only [Res.bind] at q
      cases h3 : evEs P cl r σ h2 with
      | ok fs h4 =>
        rw [h3] at q
        simp only [Res.ok.injEq] at q
        rw [← q.1, List.length_cons, evEs_cnt em h3]
      | exc _ _ _ _ => rw [h3] at q; cases q
      | bad => rw [h3] at q; cases q
    | exc _ _ _ _ => rw [h1] at q; cases q
    | bad => rw [h1] at q; cases q
  | .star _ _, n, h, h', gs, e, q => by cases e

section
variable {T : Tb} {k : Nat} {X : Cx} {W : WX} {L : Lx} {a b c : Expr} {x y z : E} {pos apos : Pos} {args : List Expr} {kws : List Keyword} {ks : List Str} {xs ys : Es} {pins : List (Addr × Obj)} {σ : L2.St} {H : Hp} {s : Shared}
theorem wp_args {ta tk : TA} {f : Value} {first : List Value} {R : List V → List V → Hp → Prop} {Qv : Value → Shared → Prop} (ha : PA X args ta) (hkw : PK X kws tk) (hs : args.any isStar = false) (hks : kwNames kws = some ks) (hkp : PySem.W.keepIn X.K f = true) (hnil : args = [] → ∀ σ H R, ta σ H R → R [] H) (I : L2.Inv X pins σ H s)
    (q : ta σ H fun vs H1 => tk σ H1 fun zs H2 => R vs zs H2) (go : ∀ us ws s2 vs zs H2, L2.Inv X pins σ H2 s2 → Vals vs us → Vals zs ws → R vs zs H2 → wpAny (model X.prog X.w) X.A (call f (first ++ us) (ks.zip ws)) Qv X.xe s2) :
    wpAny (model X.prog X.w) X.A (callWith pos f first (backTo pos (starEach args X.env)) (backToKw pos (keywordEach kws X.env))) Qv X.xe s := by
  obtain ⟨k1, k2, k3⟩ := kw_plain (env := X.env) (pos := pos) hks
  obtain ⟨a1, a2⟩ := args_plain (env := X.env) (pos := pos) hs
  cases args with
  | nil =>
    refine PySem.W.callWith_KW0 (h₀ := X.base) I.ok.mod.kin hkp k1 ?_ (by rw [k2]; rfl)
    refine thn (hkw.run pos pins s σ H _ I (hnil rfl _ _ _ q)) fun ws s2 ⟨zs, H2, I2, r2, q2⟩ => ⟨I2.kIn, ?_⟩
    rw [k3]
    exact go [] ws s2 [] zs H2 I2 .nil r2 q2
  | cons e r =>
    simp only [List.any_cons, Bool.or_eq_false_iff] at hs
    refine PySem.W.callWith_KW (h₀ := X.base) I.ok.mod.kin hkp k1 ?_ (by rw [a1, k2]; rfl) (star_not hs.1)
    refine thn (ha.run pos pins s σ H _ I q) fun us s1 ⟨vs, H1, I1, r1, q1⟩ => ?_
    refine thn (hkw.run pos pins s1 σ H1 _ I1 q1) fun ws s2 ⟨zs, H2, I2, r2, q2⟩ => ⟨I2.kIn, ?_⟩
    rw [k3]
    exact go us ws s2 vs zs H2 I2 r1 r2 q2
/-- the reading of a call's values, as lists of both *)-/
theorem rA_nil (σ : L2.St) (H : Hp) (R : List V → Hp → Prop) (q : rA T k X W .nil σ H R) : R [] H := by
  obtain ⟨ι, h, ds, rh, rs, p⟩ := q
  exact Post.now (a := ([] : List D)) (h := h) p rh .nil
theorem mapO_len {α β : Type} {f : α → Option β} : ∀ {l : List α} {r : List β}, mapO f l = some r → r.length = l.length
  | [], r, e => by simp only [mapO, Option.some.injEq] at e; rw [← e]; rfl
  | a :: l, r, e => by
    simp only [mapO] at e
    split at e
    · split at e
      · rename_i ys hy; cases e; simp [mapO_len hy]
      · cases e
    · cases e
theorem perm_len {α β : Type} {p : List Nat} {l : List α} {r : List α} (e : permG p l = some r) {m : List β} (hl : m.length = l.length) : ∃ t, permG p m = some t ∧ t.length = r.length := by
  have al : ∀ (m : List β) (l : List α), m.length = l.length → All2 (fun _ _ => True) m l := by
    intro m
    induction m with
    | nil => intro l h; cases l with
      | nil => exact .nil
      | cons _ _ => cases h
    | cons x m ih => intro l h; cases l with
      | nil => cases h
      | cons y l => exact .cons True.intro (ih l (by simpa using h))
  obtain ⟨t, ht, r2⟩ := perm_rel (al m l hl) e
  exact ⟨t, ht, r2.len⟩
theorem vals_all2 {vs : List V} {us : List Value} (r : Vals vs us) : All2 RelV vs us := by
  induction r with
  | nil => exact .nil
  | cons a _ ih => exact .cons a ih
/-- a def of the text runs, with values given by place and by name -/
theorem run_i (o : XOk T k X W L) {i n : Nat} {perm : List Nat} {us ws : List Value} {vs zs : List V} {gs es : List D} {ι : List Addr} {h : Hh} {Q : VK} (hp : sgOf T.G i n ks = some perm) (hu : us.length = n) (hw : ws.length = ks.length)
    (I : L2.Inv X pins σ H s) (rh : Rh (gm X T.cA) ι H h) (r1 : Vals vs us) (r2 : Vals zs ws) (q1 : All2 (Rv X.K ι H) (vs ++ zs) gs) (he : permD perm gs = some es) (p : Post (gm X T.cA) W (Rv X.K) σ ι H (fnAt T.P k i es h) Q) :
    wpAny (model X.prog X.w) X.A (call (.ref (T.fA i)) us (ks.zip ws)) (EP X pins σ Q) X.xe s := by
  obtain ⟨fn, hf, _⟩ := fnAt_fn p
  obtain ⟨us', h1, h2, h3⟩ := sg_bind o.tb hp s hu hw
  obtain ⟨cs, c1, c2⟩ := perm_rel q1 (show permG perm gs = some es from he)
  obtain ⟨us2, d1, d2⟩ := perm_vals (r1.append r2) c1
  rw [h1] at d1
  cases d1
  exact run_f (o.fns i fn hf) (o.hr.mono (by omega)) o.hg o.tk I h3 d2 ⟨by rw [d2.length]; exact h2, ι, h, es, rh, c2, p.wish⟩
theorem c_call (o : XOk T k X W L) {f : Str} {i : Nat} {perm : List Nat} {p0 : Pos} (hg : globOf T.G L f = some (.fn i)) (hks : kwNames kws = some ks) (hs : args.any isStar = false) (ha : PA X args (rA T k X W xs)) (hkw : PK X kws (rA T k X W ys))
    (hn : xs.cnt = some args.length) (hm : ys.cnt = some ks.length) (hnil : args = [] → xs = .nil) (hp : sgOf T.G i args.length ks = some perm) : PE X (.Call (.Name f p0) args kws pos) (rE T k X W (.call i xs ys perm)) := by
  refine ⟨fun pins s σ H Q I ⟨ι, h, ds, rh, rs, p⟩ => ?_⟩
  simp only [evE] at p
  obtain ⟨hno, hgl, hlk⟩ := o.glob hg
  obtain ⟨hmg, hkp⟩ := o.tb.fn f i hlk
  refine wpAny_Call_Name_kw (ld_glob I hgl hmg ?_ (okNm_ne hno).1)
  refine wp_args (R := fun vs zs H2 => ∃ ι2 h2 gs fs, Rh (gm X T.cA) ι2 H2 h2 ∧ vs.length = args.length ∧ zs.length = ks.length ∧ All2 (Rv X.K ι2 H2) (vs ++ zs) (gs ++ fs) ∧ Post (gm X T.cA) W (Rv X.K) σ ι2 H2 (match permD perm (gs ++ fs) with
    | some es => fnAt T.P k i es h2
    | none => .bad) Q) ha hkw hs hks hkp (fun e => by rw [hnil e]; exact rA_nil) I ?_ ?_
  · refine ⟨ι, h, ds, rh, rs, (Post.seqE p rs).mono ?_⟩
    rintro vs H1 ⟨gs, ι1, h1, q1, e1, rh1, rs1, rv, p1⟩
    refine ⟨ι1, h1, ds, rh1, rs1, (Post.seqE p1 rs1).mono ?_⟩
    rintro zs H2 ⟨fs, ι2, h2, q2, e2, rh2, rs2, rz, p2⟩
    exact ⟨ι2, h2, gs, fs, rh2, by rw [rv.len]; exact evEs_cnt hn q1, by rw [rz.len]; exact evEs_cnt hm q2, (ext2 e2 rv).app rz, p2⟩
  · rintro us ws s2 vs zs H2 I2 r1 r2 ⟨ι2, h2, gs, fs, rh2, l1, l2, rv, p2⟩
    cases hpd : permD perm (gs ++ fs) with
    | none => rw [hpd] at p2; exact p2.elim
    | some es =>
      rw [hpd] at p2
      exact run_i o hp (by rw [List.nil_append, ← r1.length]; exact l1) (by rw [← r2.length]; exact l2) I2 rh2 r1 r2 rv hpd p2
theorem wp_mcall {M : Model} {A : Around} {E : Value → Shared → Prop} {env : Env} {ob : Expr} {m : Str} {Qv : Value → Shared → Prop} (h0 : isCall0 ob = false) (hs : args.any isStar = false) (hks : kwNames kws = some ks) (hn : args.length + kws.length < 25) (hl : apos.endLine = pos.line)
    (h : wpAny M A (eval ob env) (fun ov s1 => wpAny M A (getMethod ov m (do return (← importBound ob env).getD true)) (fun fx s2 => wpAny M A (callWith pos fx.1 fx.2 (backTo pos (starEach args env)) (backToKw pos (keywordEach kws env))) Qv E s2) E s1) E s) :
    wpAny M A (eval (.Call (.Attribute ob m apos) args kws pos) env) Qv E s := by
  have few : methodCallForm (args.length + kws.length) (backTo pos (starEach args env)) (backToKw pos (keywordEach kws env)) = true := by
    unfold methodCallForm
    rw [(args_plain hs).2, (kw_plain hks).1]
    simp only [Bool.true_and]
    exact decide_eq_true (by split <;> omega)
  have hp : methodCallPos true ob env apos pos = pure pos := by
    unfold methodCallPos
    rw [if_pos (by simp [hl])]
  rw [arm_eval_Call, base_of h0]
  refine wpAny_bind (thn h fun ov s1 h1 => wpAny_bind (wpAny_standAt ?_))
  unfold methodCall
  rw [few, hp]
  exact wpAny_bind (wpAny_holding (thn h1 fun fx s2 h2 => wpAny_bind (wpAny_pure h2)))
theorem mPerm_of : ∀ {cls : List Cl} {m : Str} {n : Nat} {ks : List Str} {p : List Nat} {c : Nat} {kc : Cl} {f : Nat}, mPerm T.G m n ks cls = some p → cls[c]? = some kc → kc.meths.lookup m = some f → sgOf T.G f n ks = some p
  | [], m, n, ks, p, c, kc, f, e, h1, h2 => by cases e
  | q :: r, m, n, ks, p, c, kc, f, e, h1, h2 => by
    simp only [mPerm] at e
    split at e
    · rename_i hq
      cases c with
      | zero => simp only [List.getElem?_cons_zero, Option.some.injEq] at h1; subst h1; rw [hq] at h2; cases h2
      | succ c => exact mPerm_of e (by simpa using h1) h2
    · rename_i f0 hq
      split at e
      · cases e
      · rename_i p0 hp0
        split at e
        · rename_i hall
          cases e
          cases c with
          | zero => simp only [List.getElem?_cons_zero, Option.some.injEq] at h1; subst h1; rw [hq] at h2; cases h2; exact hp0
          | succ c =>
            have hm : kc ∈ r := List.mem_of_getElem? (by simpa using h1)
            have := (List.all_eq_true.mp hall) kc hm
            rw [h2] at this
            simpa using this
        · cases e
theorem c_meth (o : XOk T k X W L) {ob : Expr} {m : Str} {perm : List Nat} (ho : PE X ob (rE T k X W x)) (h0 : isCall0 ob = false) (hks : kwNames kws = some ks) (hs : args.any isStar = false) (ha : PA X args (rA T k X W xs)) (hkw : PK X kws (rA T k X W ys))
    (hn : xs.cnt = some args.length) (hm : ys.cnt = some ks.length) (hnil : args = [] → xs = .nil) (hp : mPerm T.G m (args.length + 1) ks T.G.cls = some perm) (hz : args.length + kws.length < 25) (hl : apos.endLine = pos.line) :
    PE X (.Call (.Attribute ob m apos) args kws pos) (rE T k X W (.meth x m xs ys perm)) := by
  refine ⟨fun pins s σ H Q I ⟨ι, h, ds, rh, rs, p⟩ => ?_⟩
  simp only [evE] at p
  refine wp_mcall h0 hs hks hz hl (thn (ho.run pins s σ H _ I ⟨ι, h, ds, rh, rs, Post.seq p rs⟩) fun u s1 ⟨v, H1, I1, rx, d, ι1, h1, e1, rh1, rs1, rd, p1⟩ => ?_)
  cases hom : objM T.P h1 d m with
  | none => rw [hom] at p1; exact p1.elim
  | some f =>
    rw [hom] at p1
    obtain ⟨a, C, dx, fl, c, kc, rfl, hH, hlk, hk, hC, hml⟩ := obj_meth o.tb rh1 rd hom
    cases (show u = Value.ref a from rx)
    have q := o.tb.ck _ _ _ hk hC
    have mt := q.mt _ _ hml
    refine getmeth_ok I1 hH q.cl mt hlk ?_
    refine wp_args (first := [.ref a]) (R := fun vs zs H2 => ∃ ι2 h2 gs fs, Rh (gm X T.cA) ι2 H2 h2 ∧ vs.length = args.length ∧ zs.length = ks.length ∧ All2 (Rv X.K ι2 H2) ((V.ref a :: vs) ++ zs) (d :: (gs ++ fs)) ∧ Post (gm X T.cA) W (Rv X.K) σ ι2 H2 (match permD perm (d :: (gs ++ fs)) with
      | some es => fnAt T.P k f es h2
      | none => .bad) Q) ha hkw hs hks mt.kp (fun e => by rw [hnil e]; exact rA_nil) I1 ?_ ?_
    · refine ⟨ι1, h1, ds, rh1, rs1, (Post.seqE p1 rs1).mono ?_⟩
      rintro vs H2 ⟨gs, ι2, h2, q2, e2, rh2, rs2, rv, p2⟩
      refine ⟨ι2, h2, ds, rh2, rs2, (Post.seqE p2 rs2).mono ?_⟩
      rintro zs H3 ⟨fs, ι3, h3, q3, e3, rh3, rs3, rz, p3⟩
      exact ⟨ι3, h3, gs, fs, rh3, by rw [rv.len]; exact evEs_cnt hn q2, by rw [rz.len]; exact evEs_cnt hm q3, .cons ((rd.ext e2).ext e3) ((ext2 e3 rv).app rz), p3⟩
    · rintro us ws s2 vs zs H2 I2 r1 r2 ⟨ι2, h2, gs, fs, rh2, l1, l2, rv, p2⟩
      cases hpd : permD perm (d :: (gs ++ fs)) with
      | none => rw [hpd] at p2; exact p2.elim
      | some es =>
        rw [hpd] at p2
        exact run_i o (us := .ref a :: us) (vs := .ref a :: vs) (mPerm_of hp hk hml) (by rw [List.length_cons, ← r1.length, l1]) (by rw [← r2.length]; exact l2) I2 rh2 (.cons rfl r1) r2 rv hpd p2
end
end Q
end
section
set_option autoImplicit false
set_option Elab.async false
set_option linter.all false
set_option maxRecDepth 4000
set_option maxHeartbeats 1000000
/-! Q: a class's call; built-in functions and methods; isinstance; list and tuple of a range; dict displays. -/
namespace Q
open PySem L2 PySem.Spec PyProof.Rows

section
variable {T : Tb} {k : Nat} {X : Cx} {W : WX} {L : Lx} {a b c : Expr} {x y z : E} {pos apos : Pos} {args : List Expr} {kws : List Keyword} {ks : List Str} {xs ys : Es} {pins : List (Addr × Obj)} {σ : L2.St} {H : Hp} {s : Shared}
theorem c_mk (o : XOk T k X W L) {f : Str} {c : Nat} {kc : Cl} {perm : List Nat} {p0 : Pos} (hg : globOf T.G L f = some (.cl c)) (hk : T.G.cls[c]? = some kc) (hks : kwNames kws = some ks) (hs : args.any isStar = false) (ha : PA X args (rA T k X W xs)) (hkw : PK X kws (rA T k X W ys))
    (hn : xs.cnt = some args.length) (hm : ys.cnt = some ks.length) (hnil : args = [] → xs = .nil) (hp : sgOf T.G kc.init (args.length + 1) ks = some perm) : PE X (.Call (.Name f p0) args kws pos) (rE T k X W (.mk c xs ys perm)) := by
  refine ⟨fun pins s σ H Q I ⟨ι, h, ds, rh, rs, p⟩ => ?_⟩
  simp only [evE] at p
  obtain ⟨hno, hgl, hlk⟩ := o.glob hg
  obtain ⟨C, hC, hmg⟩ := o.tb.cl f c hlk
  have q := o.tb.ck _ _ _ hk hC
  refine wpAny_Call_Name_kw (ld_glob I hgl hmg ?_ (okNm_ne hno).1)
  refine wp_args (R := fun vs zs H2 => ∃ ι2 h2 gs fs, Rh (gm X T.cA) ι2 H2 h2 ∧ vs.length = args.length ∧ zs.length = ks.length ∧ All2 (Rv X.K ι2 H2) (vs ++ zs) (gs ++ fs) ∧ Post (gm X T.cA) W (Rv X.K) σ ι2 H2 (match permD perm (.ref h2.length :: (gs ++ fs)), T.G.cls[c]? with
    | some es, some k_1 => (fnAt T.P k k_1.init es (h2 ++ [.obj c []])).bind fun r h3 => match r with
      | .non => .ok (.ref h2.length) h3
      | _ => .bad
    | _, _ => .bad) Q) ha hkw hs hks q.ma.kp (fun e => by rw [hnil e]; exact rA_nil) I ?_ ?_
  · refine ⟨ι, h, ds, rh, rs, (Post.seqE p rs).mono ?_⟩
    rintro vs H1 ⟨gs, ι1, h1, q1, e1, rh1, rs1, rv, p1⟩
    refine ⟨ι1, h1, ds, rh1, rs1, (Post.seqE p1 rs1).mono ?_⟩
    rintro zs H2 ⟨fs, ι2, h2, q2, e2, rh2, rs2, rz, p2⟩
    exact ⟨ι2, h2, gs, fs, rh2, by rw [rv.len]; exact evEs_cnt hn q1, by rw [rz.len]; exact evEs_cnt hm q2, (ext2 e2 rv).app rz, p2⟩
  · rintro us ws s2 vs zs H2 I2 r1 r2 ⟨ι2, h2, gs, fs, rh2, l1, l2, rv, p2⟩
    cases hpd : permD perm (.ref h2.length :: (gs ++ fs)) with
    | none => rw [hpd] at p2; exact p2.elim
    | some es =>
      rw [hpd, hk] at p2
      simp only at p2
      have hfn : ∃ fn, T.P.fns[kc.init]? = some fn := by
        cases hr : fnAt T.P k kc.init es (h2 ++ [.obj c []]) with
        | bad => rw [hr] at p2; exact p2.elim
        | ok r h3 =>
          have z : Post (gm X T.cA) W (Rv X.K) σ ι2 H2 (fnAt T.P k kc.init es (h2 ++ [.obj c []])) (fun _ _ => True) := by rw [hr]; intro _ _ _ _ _ _; trivial
          obtain ⟨fn, hf, _⟩ := fnAt_fn z
          exact ⟨fn, hf⟩
        | exc cc fl σ' h3 =>
          have z : Post (gm X T.cA) (fun _ _ _ _ => True) (Rv X.K) σ ι2 H2 (fnAt T.P k kc.init es (h2 ++ [.obj c []])) (fun _ _ => True) := by rw [hr]; intro _ _ _ _ _ _ _; trivial
          obtain ⟨fn, hf, _⟩ := fnAt_fn z
          exact ⟨fn, hf⟩
      obtain ⟨fn, hf⟩ := hfn
      have lu : us.length = args.length := by rw [← r1.length]; exact l1
      have lw : ws.length = ks.length := by rw [← r2.length]; exact l2
      have bnd : ∀ (st : Shared) (self : Value), ∃ es', permG perm (self :: (us ++ ws)) = some es' ∧ es'.length = (T.ps kc.init).length ∧ BindsTo st (T.fd kc.init) ⟨self :: us, ks.zip ws⟩ ((T.ps kc.init).zip es') := fun st self =>
        sg_bind o.tb hp st (us := self :: us) (ws := ws) (by simp [lu]) lw
      have sub : ∀ a : Addr, ∃ cs, permG perm (V.ref a :: (vs ++ zs)) = some cs ∧ Vals cs ((permG perm (Value.ref a :: (us ++ ws))).getD []) := fun a => by
        obtain ⟨es', h1, _, _⟩ := bnd s2 (.ref a)
        obtain ⟨cs, hc, _⟩ := perm_len h1 (m := V.ref a :: (vs ++ zs)) (by simp [r1.length, r2.length])
        obtain ⟨us2, d1, d2⟩ := perm_vals (show Vals (V.ref a :: (vs ++ zs)) (Value.ref a :: (us ++ ws)) from .cons rfl (r1.append r2)) hc
        exact ⟨cs, hc, by rw [d1]; exact d2⟩
      refine run_mk (us := fun self => (permG perm (self :: (us ++ ws))).getD []) (vs := fun v => (permG perm (v :: (vs ++ zs))).getD []) q.ma (o.fns kc.init fn hf) o.hr o.hg o.tk I2 (fun st self => ?_) (fun a => ?_) fun xa dx hx hd ne => ?_
      · obtain ⟨es', h1, h2, h3⟩ := bnd st self
        rw [List.nil_append, h1]
        exact h3
      · obtain ⟨cs, hc, r⟩ := sub a
        rw [hc]
        exact r
      · obtain ⟨es', b1, b2, _⟩ := bnd s2 (.ref xa)
        have e1 : Ext ι2 H2 ι2 (upd H2 dx (.own xa)) := ext_tup hd
        have rh3 := rh2.tup (o := .own xa) hd
        have hx3 : upd H2 dx (.own xa) xa = none := by rw [upd_ne (Ne.symm ne)]; exact hx
        have e2 : Ext ι2 (upd H2 dx (.own xa)) (ι2 ++ [xa]) (upd (upd H2 dx (.own xa)) xa (.ins C dx [])) := ext_cell hx3
        have rh4 : Rh (gm X T.cA) (ι2 ++ [xa]) (upd (upd H2 dx (.own xa)) xa (.ins C dx [])) (h2 ++ [.obj c []]) := rh3.new hx3 ⟨C, dx, [], hC, upd_same, .nil⟩
        have rself : Rv X.K (ι2 ++ [xa]) (upd (upd H2 dx (.own xa)) xa (.ins C dx [])) (.ref xa) (.ref h2.length) := rh3.newref
        have rall : All2 (Rv X.K (ι2 ++ [xa]) (upd (upd H2 dx (.own xa)) xa (.ins C dx []))) (V.ref xa :: (vs ++ zs)) (.ref h2.length :: (gs ++ fs)) := .cons rself (ext2 (e1.trans e2) rv)
        obtain ⟨cs, hc, rc⟩ := perm_rel rall (show permG perm (.ref h2.length :: (gs ++ fs)) = some es from hpd)
        obtain ⟨us2, d1, d2⟩ := perm_vals (show Vals (V.ref xa :: (vs ++ zs)) (Value.ref xa :: (us ++ ws)) from .cons rfl (r1.append r2)) hc
        rw [b1] at d1
        cases d1
        refine ⟨by simp only [hc, Option.getD_some]; rw [d2.length]; exact b2, ι2 ++ [xa], h2 ++ [.obj c []], es, rh4, by simp only [hc, Option.getD_some]; exact rc, ?_⟩
        have p4 := Post.later (e1.trans e2) p2
        clear p2
        cases hr : fnAt T.P k kc.init es (h2 ++ [.obj c []]) with
        | bad => rw [hr] at p4; exact p4.elim
        | exc cc fl σ' h3 => rw [hr] at p4; exact p4
        | ok r h3 =>
          rw [hr] at p4
          intro v ι5 H5 e5 rh5 rv5
          cases r <;> try exact p4.elim
          cases rv5
          exact ⟨rfl, p4 _ ι5 H5 e5 rh5 (rself.ext e5)⟩
/-! ### built-in functions and methods -/
def isBT : Value → Bool
  | .builtin _ => true
  | .type _ => true
  | _ => false
theorem btTab_ok : (btTab.all fun q => q.1.2 != 0 && decide (bootBuiltins q.1.1 = some (btV q.2)) && isBT (btV q.2) && plainB q.2) = true := by decide +kernel
theorem mem_lk {α β : Type} [BEq α] [LawfulBEq α] : ∀ {l : List (α × β)} {a : α} {b : β}, l.lookup a = some b → (a, b) ∈ l
  | (x, y) :: r, a, b, e => by
    rw [List.lookup_cons] at e
    split at e
    · rename_i h
      cases e
      rw [eq_of_beq h]
      exact List.mem_cons_self
    · exact List.mem_cons_of_mem _ (mem_lk e)
theorem btOf_val {f : Str} {n : Nat} {bt : Bt} (e : btOf f n = some bt) : n ≠ 0 ∧ bootBuiltins f = some (btV bt) ∧ ((∃ id, btV bt = .builtin id) ∨ ∃ ty, btV bt = .type ty) ∧ plainB bt = true := by
  have q := (List.all_eq_true.mp btTab_ok) _ (mem_lk e)
  simp only [Bool.and_eq_true, decide_eq_true_eq, bne_iff_ne, ne_eq] at q
  obtain ⟨⟨⟨q1, q2⟩, q3⟩, q4⟩ := q
  refine ⟨q1, q2, ?_, q4⟩
  cases h : btV bt <;> rw [h] at q3 <;> first | exact .inl ⟨_, rfl⟩ | exact .inr ⟨_, rfl⟩ | cases q3
theorem c_blt (o : XOk T k X W L) {f : Str} {bt : Bt} {p0 : Pos} (hf : isFree T.G L f = true) (hb : btOf f args.length = some bt) (hs : args.any isStar = false) (ha : PA X args (rA T k X W xs)) : PE X (.Call (.Name f p0) args [] pos) (rE T k X W (.blt bt xs)) := by
  obtain ⟨hn, hgl, hmg⟩ := o.free hf
  obtain ⟨h0, hv, hty, hpl⟩ := btOf_val hb
  have un := o.un
  cases args with
  | nil => exact absurd rfl h0
  | cons e r =>
    have hs' := hs
    simp only [List.any_cons, Bool.or_eq_false_iff] at hs'
    have hc := bt_ok (cA := T.cA) o.sm o.hc o.hg (by omega) bt hpl
    have go : PE X (.Call (.Name f p0) (e :: r) [] pos) (tCB (fun xs H Q => ∃ ι h ds, Rh (gm X T.cA) ι H h ∧ All2 (Rv X.K ι H) xs ds ∧ PostO (gm X T.cA) (Rv X.K) ι H (btD bt ds h) Q) (rA T k X W xs)) := by
      rcases hty with ⟨id, hid⟩ | ⟨ty, hid⟩
      · rw [hid] at hc hv
        exact pe_callB hc hgl hmg hv ha (okNm_ne hn).2.2 (okNm_ne hn).1 (star_not hs'.1) (args_plain hs'.2).1
      · rw [hid] at hc hv
        exact pe_callTy hc hgl hmg hv ha (okNm_ne hn).2.2 (okNm_ne hn).1 (star_not hs'.1) (args_plain hs'.2).1
    refine pe_imp go fun σ H Q ⟨ι, h, ds, rh, rs, p⟩ => ?_
    simp only [evE] at p
    refine ⟨ι, h, ds, rh, rs, (Post.seq p rs).mono ?_⟩
    rintro v H1 ⟨d, ι1, h1, e1, rh1, rs1, rd, p1⟩
    exact ⟨ι1, h1, d, rh1, rd, p1.toO⟩
theorem c_isi (o : XOk T k X W L) {cn : Str} {ty : Ty} {p0 p1 : Pos} (hf : isFree T.G L "isinstance" = true) (hsa : isStar a = false) (ha : PE X a (rE T k X W x)) (ht : tyNm T.G L cn = some ty) : PE X (.Call (.Name "isinstance" p0) [a, .Name cn p1] [] pos) (rE T k X W (.isi x [ty])) := by
  obtain ⟨hn, hgl, hmg⟩ := o.free hf
  have cls : ∃ v u, tyV T.cA ty = some u ∧ RelV v u ∧ PE X (.Name cn p1) (tC v) := by
    unfold tyNm at ht
    split at ht
    · rename_i c hc
      cases ht
      obtain ⟨hno, hg2, hlk⟩ := o.glob hc
      obtain ⟨C, hC, hm2⟩ := o.tb.cl _ _ hlk
      exact ⟨.ref C, .ref C, by simp [tyV, hC], rfl, pe_glob hg2 hm2 rfl (okNm_ne hno).1⟩
    · split at ht
      · rename_i hfr
        obtain ⟨hno, hg2, hm2⟩ := o.free hfr
        have go : ∀ {n : String}, bootBuiltins cn = some (.type n) → tyV T.cA ty = some (.type n) → ∃ v u, tyV T.cA ty = some u ∧ RelV v u ∧ PE X (.Name cn p1) (tC v) := fun {n} hb hy =>
          ⟨.ty n, .type n, hy, rfl, pe_bltn hg2 hm2 hb rfl (okNm_ne hno).2.2 (okNm_ne hno).1⟩
        split at ht
        · rename_i h; subst h; cases ht; exact go (n := "int") (by decide +kernel) rfl
        split at ht
        · rename_i h; subst h; cases ht; exact go (n := "bool") (by decide +kernel) rfl
        split at ht
        · rename_i h; subst h; cases ht; exact go (n := "str") (by decide +kernel) rfl
        split at ht
        · rename_i h; subst h; cases ht; exact go (n := "tuple") (by decide +kernel) rfl
        split at ht
        · rename_i h; subst h; cases ht; exact go (n := "list") (by decide +kernel) rfl
        split at ht
        · rename_i h; subst h; cases ht; exact go (n := "dict") (by decide +kernel) rfl
        · cases ht
      · cases ht
  obtain ⟨cv, cu, hy, hr, hpe⟩ := cls
  refine ⟨fun pins s σ H Q I ⟨ι, h, ds, rh, rs, p⟩ => ?_⟩
  simp only [evE] at p
  refine wpAny_Call_Name_kw (ld_blt I hgl hmg boot_isinstance ?_ (okNm_ne hn).2.2 (okNm_ne hn).1)
  refine callWith_builtin1 ?_ (star_not hsa) rfl
  have hA := (pa_cons ha (pa_cons hpe pa_nil rfl) (star_not hsa)).run pos pins s σ H (fun vs H1 => ∃ v, vs = [v, cv] ∧ ∃ d ι1 h1, Rh (gm X T.cA) ι1 H1 h1 ∧ Rv X.K ι1 H1 v d ∧ Post (gm X T.cA) W (Rv X.K) σ ι1 H1 (lift ((mapO (isiD h1 d) [ty]).map fun bs => D.bl (bs.any id)) h1) Q) I
    ⟨ι, h, ds, rh, rs, (Post.seq p rs).mono fun v H1 ⟨d, ι1, h1, e1, rh1, rs1, rd, p1⟩ => ⟨v, rfl, d, ι1, h1, rh1, rd, p1⟩⟩
  refine thn hA fun us s1 ⟨vs, H1, I1, ru, v, ev, d, ι1, h1, rh1, rd, p1⟩ => ?_
  subst ev
  cases ru with
  | cons rv t =>
    cases t with
    | cons rc t2 =>
      cases t2
      obtain ⟨g, hg, p2⟩ := p1.lift
      simp only [mapO] at hg
      cases hb : isiD h1 d ty with
      | none => rw [hb] at hg; cases hg
      | some bb =>
        rw [hb] at hg
        simp only [Option.map_some, List.any_cons, List.any_nil, Bool.or_false, id, Option.some.injEq] at hg
        subst hg
        have ec : ∀ {cu2 : Value}, RelV cv cu2 → cu2 = cu := fun {cu2} r2 => by
          have hty := hy
          cases cv with
          | ty n => exact (show cu2 = .type n from r2).trans (show cu = .type n from hr).symm
          | ref C => exact (show cu2 = .ref C from r2).trans (show cu = .ref C from hr).symm
          | non => exact (show cu2 = .none from r2).trans (show cu = .none from hr).symm
          | bl n => exact (show cu2 = .bool n from r2).trans (show cu = .bool n from hr).symm
          | int n => obtain ⟨_, e⟩ := (show ∃ t, cu = Value.int n t from hr); subst e; cases ty <;> simp [tyV] at hty
          | str n => obtain ⟨_, e⟩ := (show ∃ t, cu = Value.str n t from hr); subst e; cases ty <;> simp [tyV] at hty
          | byt n => obtain ⟨_, e⟩ := (show ∃ t, cu = Value.bytes n t from hr); subst e; cases ty <;> simp [tyV] at hty
          | flt n => obtain ⟨_, e⟩ := (show ∃ t, cu = Value.float n t from hr); subst e; cases ty <;> simp [tyV] at hty
        rw [ec rc]
        exact isi_ok o rh1 I1 rd rv hy hb (p2.now rh1 (.bl bb))
theorem bmOf_nm {m : Str} {n : Nat} {b : Bm} (e : bmOf m n = some b) : m = bmN b := by
  unfold bmOf at e
  split at e
  · rename_i h; cases e; exact h.1
  split at e
  · rename_i h; cases e; exact h.1
  split at e
  · rename_i h; cases e; exact h.1
  split at e
  · rename_i h; cases e; exact h.1
  · cases e
theorem c_bm {ob : Expr} {m : Str} {bm : Bm} (ho : PE X ob (rE T k X W x)) (h0 : isCall0 ob = false) (hs : args.any isStar = false) (ha : PA X args (rA T k X W xs)) (hnil : args = [] → xs = .nil) (hb : bmOf m args.length = some bm) (hz : args.length < 25) (hl : apos.endLine = pos.line) :
    PE X (.Call (.Attribute ob m apos) args [] pos) (rE T k X W (.bm bm x xs)) := by
  have hm := bmOf_nm hb
  subst hm
  refine ⟨fun pins s σ H Q I ⟨ι, h, ds, rh, rs, p⟩ => ?_⟩
  simp only [evE] at p
  refine wpAny_Call_method_late (base_of h0) ?_ (by simp [hl]) rfl (thn (ho.run pins s σ H _ I ⟨ι, h, ds, rh, rs, Post.seq p rs⟩) fun v s1 ⟨xv, H1, I1, r1, d, ι1, h1, e1, rh1, rs1, rd, p1⟩ => ?_)
  · rw [(args_plain hs).2]
    show (true && true && decide _) = true
    simp only [Bool.true_and]
    exact decide_eq_true (by simp; omega)
  · cases hk : kindD h1 d with
    | none => rw [hk] at p1; exact p1.elim
    | some kd =>
      rw [hk] at p1
      dsimp only at p1
      have fin : ∀ (g : List D) (h2 : Hh) (ι2 : List Addr) (H2 : Hp), Post (gm X T.cA) W (Rv X.K) σ ι2 H2 (if kindD h2 d = some kd then liftH (bmD bm d g h2) else .bad) Q → kindD h2 d = some kd ∧ PostO (gm X T.cA) (Rv X.K) ι2 H2 (bmD bm d g h2) Q := fun g h2 ι2 H2 p2 => by
        split at p2
        · rename_i hk2; exact ⟨hk2, p2.toO⟩
        · exact p2.elim
      cases hbk : bmK kd bm with
      | false => rw [hbk] at p1; exact p1.elim
      | true =>
        rw [hbk] at p1
        dsimp only at p1
        obtain ⟨id, hid⟩ : ∃ id, bmI kd bm = some id := by cases kd <;> cases bm <;> first | exact ⟨_, rfl⟩ | cases hbk
        obtain ⟨s1', s2', s3'⟩ := bm_slot hid
        obtain ⟨t1, t2⟩ := kind_ty (cA := T.cA) I1 rh1 rd r1 hk
        refine ⟨kdT kd, id, s1', s2', s3', t1, t2, ?_⟩
        cases args with
        | nil =>
          rw [hnil rfl] at p1
          obtain ⟨hk2, p3⟩ := fin [] h1 ι1 H1 p1
          exact Calls.callWith_builtin rfl (evalArgs_nil3 (bm_ok (cA := T.cA) hid pins s1 σ H1 xv [] v [] Q I1 r1 .nil ⟨ι1, h1, d, [], rh1, rd, .nil, hk2, p3⟩))
        | cons e r =>
          have hs' := hs
          simp only [List.any_cons, Bool.or_eq_false_iff] at hs'
          have hA := ha.run pos pins s1 σ H1 (fun vs H2 => ∃ ι2 h2 g, Rh (gm X T.cA) ι2 H2 h2 ∧ Rv X.K ι2 H2 xv d ∧ All2 (Rv X.K ι2 H2) vs g ∧ kindD h2 d = some kd ∧ PostO (gm X T.cA) (Rv X.K) ι2 H2 (bmD bm d g h2) Q) I1
            ⟨ι1, h1, ds, rh1, rs1, (Post.seq p1 rs1).mono fun vs H2 ⟨g, ι2, h2, e2, rh2, rs2, rg, p2⟩ => let ⟨hk2, p3⟩ := fin g h2 ι2 H2 p2; ⟨ι2, h2, g, rh2, rd.ext e2, rg, hk2, p3⟩⟩
          rw [star_not hs'.1] at hA ⊢
          refine Calls.callWith_builtin (by show (false || (backTo pos (starEach r X.env)).any (·.1)) = false; rw [(args_plain hs'.2).1]; rfl) (Calls.evalArgs_plain (thn hA fun us s2 ⟨vs, H2, I2, r2, ι2, h2, g, rh2, rd2, rg, hk2, p3⟩ => ?_))
          exact bm_ok (cA := T.cA) hid pins s2 σ H2 xv vs v us Q I2 r1 r2 ⟨ι2, h2, d, g, rh2, rd2, rg, hk2, p3⟩
end
end Q
end
section
set_option autoImplicit false
set_option Elab.async false
set_option linter.all false
set_option maxRecDepth 4000
set_option maxHeartbeats 1000000
/-! Q: list and tuple of a range; dict displays; targets. -/
namespace Q
open PySem L2 PySem.Spec PyProof.Rows

section
variable {T : Tb} {k : Nat} {X : Cx} {W : WX} {L : Lx} {a b c : Expr} {x y z : E} {pos apos : Pos} {xs ys : Es} {pins : List (Addr × Obj)} {σ : L2.St} {H : Hp} {ι : List Addr} {h : Hh}
theorem rg_rep {K : PySem.W.Frag} (lo hi : Int) : All2 (Rv K ι H) (rgV lo hi) (rangeL lo hi) := by
  unfold rgV rangeL
  generalize List.range (hi - lo).toNat = l
  induction l with
  | nil => exact .nil
  | cons n r ih => exact .cons (.int _) ih
theorem rg_ok {lo hi : Int} (e : okRange lo hi = true) : RgOk lo hi := by
  simp only [okRange, decide_eq_true_eq] at e
  exact ⟨e.1, e.2.1, e.2.2.1, e.2.2.2.1, by omega⟩
theorem one_arg_run {P : Pg} {cl : Call} {bt : Bt} {ds : Sl} {Q : VK} (p : Post (gm X T.cA) W (Rv X.K) σ ι H ((evEs P cl (.cons x .nil) ds h).bind fun gs h1 => liftH (btD bt gs h1)) Q) :
    Post (gm X T.cA) W (Rv X.K) σ ι H ((evE P cl x ds h).bind fun d h1 => liftH (btD bt [d] h1)) Q := by
  simp only [evEs, bind_bind] at p
  exact p
theorem c_lstR (o : XOk T k X W L) {p0 p1 p2 : Pos} (hf : isFree T.G L "list" = true) (hr : isFree T.G L "range" = true) (hs : isStar a = false) (ha : PE X a (rE T k X W x)) : PE X (.Call (.Name "list" p0) [.Call (.Name "range" p1) [a] [] p2] [] pos) (rE T k X W (.blt .listR1 (.cons x .nil))) := by
  obtain ⟨_, g1, m1⟩ := o.free hf
  obtain ⟨_, g2, m2⟩ := o.free hr
  refine pe_imp (pe_listRg o.hc g1 m1 (prg_1 g2 m2 ha (star_not hs))) fun σ H Q ⟨ι, h, ds, rh, rs, p⟩ => ?_
  simp only [evE] at p
  refine ⟨ι, h, ds, rh, rs, (Post.seq (one_arg_run p) rs).mono ?_⟩
  rintro v H1 ⟨d, ι1, h1, e1, rh1, rs1, rd, p1⟩
  cases d <;> try exact p1.elim
  rename_i n
  cases rd
  simp only [btD] at p1
  split at p1
  · rename_i ok
    refine ⟨n, rfl, rg_ok ok, fun q hq => ?_⟩
    exact p1 _ _ _ (ext_cell hq) (rh1.new hq ⟨_, upd_same, rg_rep 0 n⟩) rh1.newref
  · exact p1.elim
theorem c_tupR (o : XOk T k X W L) {p0 p1 p2 : Pos} (hf : isFree T.G L "tuple" = true) (hr : isFree T.G L "range" = true) (hs : isStar a = false) (ha : PE X a (rE T k X W x)) : PE X (.Call (.Name "tuple" p0) [.Call (.Name "range" p1) [a] [] p2] [] pos) (rE T k X W (.blt .tupR1 (.cons x .nil))) := by
  obtain ⟨_, g1, m1⟩ := o.free hf
  obtain ⟨_, g2, m2⟩ := o.free hr
  refine pe_imp (pe_tupRg o.hc g1 m1 (prg_1 g2 m2 ha (star_not hs))) fun σ H Q ⟨ι, h, ds, rh, rs, p⟩ => ?_
  simp only [evE] at p
  refine ⟨ι, h, ds, rh, rs, (Post.seq (one_arg_run p) rs).mono ?_⟩
  rintro v H1 ⟨d, ι1, h1, e1, rh1, rs1, rd, p1⟩
  cases d <;> try exact p1.elim
  rename_i n
  cases rd
  simp only [btD] at p1
  split at p1
  · rename_i ok
    refine ⟨n, rfl, rg_ok ok, fun q hq => ?_⟩
    exact p1 _ _ _ (ext_tup hq) (rh1.tup hq) (.tupA (SqT.of upd_same) (rg_rep 0 n))
  · exact p1.elim

/-! ### dict displays -/
/-- the pairs of a display, with their trees -/
inductive PP2 (T : Tb) (k : Nat) (X : Cx) (W : WX) : List (Option Expr) → List Expr → Es → Prop
  | nil : PP2 T k X W [] [] .nil
  | cons {a b : Expr} {x y : E} {ks : List (Option Expr)} {vs : List Expr} {xs : Es} : PE X a (rE T k X W x) → PE X b (rE T k X W y) → PP2 T k X W ks vs xs → PP2 T k X W (some a :: ks) (b :: vs) (.cons x (.cons y xs))
def flat2 : List (V × V) → List V
  | [] => []
  | p :: r => p.1 :: p.2 :: flat2 r
theorem pp2_run {keys : List (Option Expr)} {vals : List Expr} {xs : Es} (q : PP2 T k X W keys vals xs) : ∃ trs, PPs X pos keys vals trs ∧ ∀ (σ : L2.St) (H : Hp) (R : List (V × V) → Hp → Prop), rA T k X W xs σ H (fun vs H' => ∃ ps, flat2 ps = vs ∧ R ps H') → tPairs trs σ H R := by
  induction q with
  | nil =>
    refine ⟨[], pps_nil, fun σ H R ⟨ι, h, ds, rh, rs, p⟩ => ?_⟩
    obtain ⟨ps, e, r⟩ := Post.now (a := ([] : List D)) (b := ([] : List V)) (h := h) p rh .nil
    cases ps with
    | nil => exact r
    | cons _ _ => cases e
  | cons ha hb _ ih =>
    obtain ⟨trs, h1, h2⟩ := ih
    refine ⟨_, pps_cons ha hb h1, fun σ H R ⟨ι, h, ds, rh, rs, p⟩ => ?_⟩
    simp only [evEs, bind_bind] at p
    refine ⟨ι, h, ds, rh, rs, (Post.seq p rs).mono ?_⟩
    rintro v H1 ⟨d, ι1, g1, e1, rh1, rs1, rd, p1⟩
    refine ⟨ι1, g1, ds, rh1, rs1, (Post.seq p1 rs1).mono ?_⟩
    rintro w H2 ⟨e, ι2, g2, e2, rh2, rs2, re, p2⟩
    refine h2 σ H2 _ ⟨ι2, g2, ds, rh2, rs2, (Post.seq p2 rs2).mono ?_⟩
    rintro vs H3 ⟨fs, ι3, g3, e3, rh3, rs3, rf, p3⟩
    obtain ⟨ps, ep, r⟩ := Post.now (a := d :: e :: fs) (b := v :: w :: vs) (h := g3) p3 rh3 (.cons ((rd.ext e2).ext e3) (.cons (re.ext e3) rf))
    cases ps with
    | nil => cases ep
    | cons q ps =>
      obtain ⟨q1, q2⟩ := q
      simp only [flat2, List.cons.injEq] at ep
      obtain ⟨rfl, rfl, ep⟩ := ep
      exact ⟨ps, ep, r⟩
/-- a cell that stood beside the cells becomes one -/
theorem ext_late {ι1 : List Addr} {H2 : Hp} {p : Addr} {u u' : HO} (hp : H p = none) (np : p ∉ ι) (e : Ext ι (upd H p u) ι1 H2) (hu : ∀ o x, u ≠ .frz o x) (hut : ∀ xs, u ≠ .tup xs) (h2 : H2 p = some u) : Ext ι H (ι1 ++ [p]) (upd H2 p u') := by
  obtain ⟨κ, e1, n1⟩ := e.pre
  have sub : ∀ a, upd H p u a = none → H a = none := fun a q => by
    by_cases z : a = p
    · rw [z]; exact hp
    · rw [upd_ne z] at q; exact q
  have old : ∀ a o, H a = some o → a ≠ p := fun a o q z => by rw [z, hp] at q; cases q
  refine ⟨⟨κ ++ [p], by rw [e1, List.append_assoc], fun a ha => ?_⟩, fun a o q nq => ?_, fun a q => ?_, fun a vs q => ?_, fun a o x q => ?_⟩
  · rcases List.mem_append.mp ha with z | z
    · exact sub a (n1 a z)
    · rw [List.mem_singleton.mp z]; exact hp
  · rw [upd_ne (old a o q)]
    exact e.keep a o (by rw [upd_ne (old a o q)]; exact q) nq
  · by_cases z : a = p
    · rw [z]; exact hp
    · rw [upd_ne z] at q; exact sub a (e.live a q)
  · rw [upd_ne (old a _ q)]
    exact e.tups a vs (by rw [upd_ne (old a _ q)]; exact q)
  · rw [upd_ne (old a _ q)]
    exact e.frzs a o x (by rw [upd_ne (old a _ q)]; exact q)
theorem ext0_late {ι1 : List Addr} {H2 : Hp} {p : Addr} {u u' : HO} (h2p : H2 p = some u) (hu : ∀ o x, u ≠ .frz o x) (hut : ∀ xs, u ≠ .tup xs) : Ext0 ι1 H2 (ι1 ++ [p]) (upd H2 p u') := by
  refine ⟨fun i a q => by rw [List.getElem?_append_left (List.getElem?_eq_some_iff.mp q).1]; exact q, fun a xs q => ?_, fun a o x q => ?_⟩
  · rw [upd_ne (fun z => by rw [z, h2p] at q; exact hut _ (Option.some.inj q))]; exact q
  · rw [upd_ne (fun z => by rw [z, h2p] at q; exact hu _ _ (Option.some.inj q))]; exact q
theorem Rh.late {G : Gm} {ι1 : List Addr} {H2 : Hp} {h2 : Hh} {p : Addr} {u u' : HO} {c : C} (rh : Rh G ι1 H2 h2) (np : p ∉ ι1) (h2p : H2 p = some u) (hu : ∀ o x, u ≠ .frz o x) (hut : ∀ xs, u ≠ .tup xs) (rc : Rc G (ι1 ++ [p]) (upd H2 p u') p c) : Rh G (ι1 ++ [p]) (upd H2 p u') (h2 ++ [c]) := by
  have e := ext0_late (ι1 := ι1) (u' := u') h2p hu hut
  refine ⟨by simp [rh.len], ?_, fun i a d q1 q2 => ?_⟩
  · rw [List.nodup_append]
    exact ⟨rh.nd, by simp, fun a ha b hb z => np (by rw [← List.mem_singleton.mp hb, ← z]; exact ha)⟩
  · by_cases hi : i < ι1.length
    · rw [List.getElem?_append_left hi] at q1
      rw [List.getElem?_append_left (by rw [← rh.len]; exact hi)] at q2
      exact (rh.at_ i a d q1 q2).ext0 e (upd_ne fun z => np (z ▸ List.mem_of_getElem? q1))
    · have hl : i < (ι1 ++ [p]).length := (List.getElem?_eq_some_iff.mp q1).1
      have e1 : i = ι1.length := by simp at hl; omega
      subst e1
      rw [List.getElem?_append_right (Nat.le_refl _)] at q1
      rw [rh.len, List.getElem?_append_right (Nat.le_refl _)] at q2
      simp at q1 q2
      subst q1; subst q2
      exact rc
theorem putK_keys (kvs : List (Key × V)) (q : Key) (v : V) (n : (kvs.map (·.1)).Nodup) : ((putK kvs q v).map (·.1)).Nodup := by
  unfold putK
  split
  · have e : (kvs.map fun kv => if kv.1 = q then (kv.1, v) else kv).map (·.1) = kvs.map (·.1) := by
      rw [List.map_map]
      refine List.map_congr_left fun p _ => ?_
      show (if p.1 = q then (p.1, v) else p).1 = p.1
      split <;> rfl
    rw [e]; exact n
  · rename_i hn
    rw [List.map_append, List.nodup_append]
    refine ⟨n, by simp, fun a ha b hb z => hn ?_⟩
    obtain ⟨p, hp, rfl⟩ := List.mem_map.mp ha
    simp only [List.map_cons, List.map_nil, List.mem_singleton] at hb
    exact List.any_eq_true.mpr ⟨p, hp, by simp [z, hb]⟩
theorem merge_rep {K : PySem.W.Frag} : ∀ {more : List (Key × V)} {dm : List (D × D)} {kvs : List (Key × V)} {dk : List (D × D)}, All2 (Rk K ι H) more dm → All2 (Rk K ι H) kvs dk → (kvs.map (·.1)).Nodup → All2 (Rk K ι H) (mergeK kvs more) (putAll dm dk)
  | [], [], kvs, dk, .nil, r, n => r
  | p :: more, q :: dm, kvs, dk, .cons ⟨e, rv⟩ t, r, n => by
    show All2 (Rk K ι H) (mergeK (putK kvs p.1 p.2) more) (putAll dm (putD q.1 q.2 dk))
    rw [← e]
    exact merge_rep t (rk_put rv r n) (putK_keys kvs p.1 p.2 n)
theorem disp_rep {K : PySem.W.Frag} : ∀ {ps : List (V × V)} {ds : List D} {kd : List (D × D)}, All2 (Rv K ι H) (flat2 ps) ds → dictOf ds = some kd → allP kd = true → ∃ kvs : List (Key × V), ps = kvs.map (fun kv => (kV kv.1, kv.2)) ∧ All2 (Rk K ι H) kvs kd
  | [], [], kd, .nil, e, _ => by cases e; exact ⟨[], rfl, .nil⟩
  | (v, w) :: ps, d :: e :: ds, kd, .cons rd (.cons re t), q, f => by
    simp only [dictOf, Option.map_eq_some_iff] at q
    obtain ⟨kd', q', rfl⟩ := q
    simp only [allP, Bool.and_eq_true] at f
    obtain ⟨kvs, e1, e2⟩ := disp_rep t q' f.2
    have one : ∃ q : Key, v = kV q ∧ keyD q = d := by
      cases d with
      | int i => cases rd; exact ⟨.inl i, rfl, rfl⟩
      | str x => cases rd; exact ⟨.inr x, rfl, rfl⟩
      | _ => simp [isFlat] at f
    obtain ⟨q, rfl, hq⟩ := one
    exact ⟨(q, w) :: kvs, by rw [e1]; rfl, .cons ⟨hq, re⟩ e2⟩
theorem pp2_len {keys : List (Option Expr)} {vals : List Expr} {xs : Es} (q : PP2 T k X W keys vals xs) : keys.all (·.isSome) = true ∧ keys.length = vals.length := by
  induction q with
  | nil => exact ⟨rfl, rfl⟩
  | cons _ _ _ ih => exact ⟨by simp [ih.1], by simp [ih.2]⟩
theorem dictOf_len : ∀ {ds : List D} {kd : List (D × D)}, dictOf ds = some kd → ds.length = 2 * kd.length
  | [], kd, e => by cases e; rfl
  | [_], kd, e => by cases e
  | a :: b :: r, kd, e => by
    simp only [dictOf, Option.map_eq_some_iff] at e
    obtain ⟨kd', e', rfl⟩ := e
    have := dictOf_len e'
    simp only [List.length_cons]
    omega
theorem c_dct {keys : List (Option Expr)} {vals : List Expr} (q : PP2 T k X W keys vals xs) (h15 : keys.length ≤ 15) : PE X (.Dict keys vals pos) (rE T k X W (.dct xs)) := by
  cases q with
  | nil =>
    refine pe_imp pe_dnewK fun σ H Q ⟨ι, h, ds, rh, rs, p⟩ p0 hp => ?_
    exact p _ _ _ (ext_cell hp) (rh.new hp (.inl ⟨[], upd_same, .nil⟩)) rh.newref
  | cons ha hb r =>
    have q := PP2.cons ha hb r
    obtain ⟨l1, l2⟩ := pp2_len q
    obtain ⟨trs, h1, h2⟩ := pp2_run (pos := pos) q
    refine pe_imp (pe_disp h1 l1 l2 (by simp) h15) fun σ H Q ⟨ι, h, ds, rh, rs, p⟩ p0 hp => ?_
    simp only [evE] at p
    have np : p0 ∉ ι := fun z => rh.live z hp
    refine h2 σ _ _ ⟨ι, h, ds, rh.tup hp, rs.ext (ext_tup hp), (Post.seqE (Post.later (ext_tup hp) p) (rs.ext (ext_tup hp))).mono ?_⟩
    rintro vs H2 ⟨gs, ι2, g2, q1, e2, rh2, rs2, rv, _⟩
    have p2 := p
    rw [q1] at p2
    simp only [Res.bind] at p2
    have h2p : H2 p0 = some (.dK []) := e2.keep p0 _ upd_same np
    have np2 : p0 ∉ ι2 := fun z => by
      obtain ⟨κ, e3, n3⟩ := e2.pre
      rw [e3] at z
      rcases List.mem_append.mp z with z | z
      · exact np z
      · have := n3 _ z; rw [upd_same] at this; cases this
    unfold dispD at p2
    cases hd : dictOf gs with
    | none => rw [hd] at p2; exact p2.elim
    | some kd =>
      rw [hd] at p2
      dsimp only at p2
      by_cases hc : (allP kd && decide (kd.length ≤ 15)) = true
      · rw [if_pos hc] at p2
        simp only [Bool.and_eq_true, decide_eq_true_eq] at hc
        have fl : ∃ ps, flat2 ps = vs := by
          have hl := rv.len
          rw [dictOf_len hd] at hl
          have ev : ∀ (n : Nat) (vs : List V), vs.length = 2 * n → ∃ ps, flat2 ps = vs := by
            intro n
            induction n with
            | zero => intro vs h; exact ⟨[], by cases vs with | nil => rfl | cons _ _ => cases h⟩
            | succ n ih =>
              intro vs h
              match vs, h with
              | a :: b :: r, h =>
                obtain ⟨ps, e⟩ := ih r (by simp only [List.length_cons] at h; omega)
                exact ⟨(a, b) :: ps, by simp [flat2, e]⟩
          exact ev _ vs hl
        obtain ⟨ps, rfl⟩ := fl
        obtain ⟨kvs, e1, e3⟩ := disp_rep rv hd hc.1
        refine ⟨ps, rfl, h2p, kvs, e1, by rw [e3.len]; exact hc.2, ?_⟩
        have hu : ∀ (o : Obj) (x : HO), HO.dK [] ≠ .frz o x := fun _ _ z => by cases z
        have hut : ∀ xs, HO.dK [] ≠ .tup xs := fun _ z => by cases z
        have e4 : Ext ι H (ι2 ++ [p0]) (upd H2 p0 (.dK (mergeK [] kvs))) := ext_late hp np e2 hu hut h2p
        have rk := merge_rep (K := X.K) e3 .nil (kvs := []) (by simp)
        have e5 := ext0_late (ι1 := ι2) (u' := .dK (mergeK [] kvs)) h2p hu hut
        exact p2 _ _ _ e4 (rh2.late np2 h2p hu hut (.inl ⟨_, upd_same, rk.imp fun _ _ z => ⟨z.1, z.2.ext0 e5⟩⟩)) (.ref (by rw [← rh2.len]; simp))
      · rw [if_neg hc] at p2; exact p2.elim
end
end Q
end
section
set_option autoImplicit false
set_option Elab.async false
set_option linter.all false
set_option maxRecDepth 4000
set_option maxHeartbeats 1000000
/-! Q: targets; what is walked; list comprehensions. -/
namespace Q
open PySem L2 PySem.Spec PyProof.Rows

/-! ### targets that only store names -/
mutual
def stT : Tg → D → Sl → Option Sl
  | .name i, d, σ => some (σ.set i (some d))
  | .tup ts, .tup xs, σ => stTs ts xs σ
  | _, _, _ => none
def stTs : Tgs → List D → Sl → Option Sl
  | .nil, [], σ => some σ
  | .cons t r, d :: ds, σ => match stT t d σ with
    | some σ1 => stTs r ds σ1
    | none => none
  | _, _, _ => none
end
mutual
def pur : Tg → Bool
  | .name _ => true
  | .tup ts => purs ts
  | _ => false
def purs : Tgs → Bool
  | .nil => true
  | .cons t r => pur t && purs r
end
mutual
def slT : Tg → List Nat
  | .name i => [i]
  | .tup ts => slTs ts
  | _ => []
def slTs : Tgs → List Nat
  | .nil => []
  | .cons t r => slT t ++ slTs r
end
def tsLen : Tgs → Nat
  | .nil => 0
  | .cons _ r => tsLen r + 1
def okS {α : Type} (o : Option α) (h : Hh) : Res α := match o with
  | some a => .ok a h
  | none => .bad
mutual
theorem asT_st {P : Pg} {cl : Call} : ∀ {t : Tg} {d : D} {σ : Sl} {h : Hh}, pur t = true → asT P cl t d σ h = okS (stT t d σ) h
  | .name i, d, σ, h, _ => by simp only [asT, stT, okS]
  | .tup ts, d, σ, h, e => by
    cases d with
    | tup xs => simp only [asT, stT]; exact asTs_st (by simpa [pur] using e)
    | _ => simp only [asT, stT, okS]
  | .sub _ _, _, _, _, e => by simp [pur] at e
  | .fld _ _, _, _, _, e => by simp [pur] at e
theorem asTs_st {P : Pg} {cl : Call} : ∀ {ts : Tgs} {ds : List D} {σ : Sl} {h : Hh}, purs ts = true → asTs P cl ts ds σ h = okS (stTs ts ds σ) h
  | .nil, [], σ, h, _ => by simp only [asTs, stTs, okS]
  | .nil, _ :: _, σ, h, _ => by simp only [asTs, stTs, okS]
  | .cons _ _, [], σ, h, _ => by simp only [asTs, stTs, okS]
  | .cons t r, d :: ds, σ, h, e => by
    simp only [purs, Bool.and_eq_true] at e
    simp only [asTs, stTs]
    rw [asT_st e.1]
    cases stT t d σ with
    | none => rfl
    | some σ1 => simp only [okS, Res.bind]; exact asTs_st e.2
end
theorem stTs_len : ∀ {ts : Tgs} {ds : List D} {σ σ' : Sl}, stTs ts ds σ = some σ' → ds.length = tsLen ts
  | .nil, [], _, _, _ => rfl
  | .nil, _ :: _, _, _, e => by simp [stTs] at e
  | .cons _ _, [], _, _, e => by simp [stTs] at e
  | .cons t r, d :: ds, σ, σ', e => by
    simp only [stTs] at e
    split at e
    · simp [tsLen, stTs_len e]
    · cases e
theorem Rs.put {K : PySem.W.Frag} {ι : List Addr} {H : Hp} {σ : L2.St} {ds : Sl} (r : Rs K ι H σ ds) {v : V} {d : D} (i : Nat) (rv : Rv K ι H v d) : Rs K ι H (σ.set i (some v)) (ds.set i (some d)) := by
  refine ⟨by simp [r.len], fun j e q => ?_⟩
  by_cases hj : i = j
  · subst hj
    have hl : i < ds.length := by have := (List.getElem?_eq_some_iff.mp q).1; simpa using this
    rw [List.getElem?_set_self hl] at q
    cases q
    exact ⟨v, List.getElem?_set_self (by rw [r.len]; exact hl), rv⟩
  · rw [List.getElem?_set_ne hj] at q
    obtain ⟨w, h1, h2⟩ := r.at_ j e q
    exact ⟨w, by rw [List.getElem?_set_ne hj]; exact h1, h2⟩
/-- a target's reading -/
def gR (T : Tb) (X : Cx) (t : Tg) : TG := fun v σ H Q => ∃ ι h ds d ds', Rh (gm X T.cA) ι H h ∧ Rs X.K ι H σ ds ∧ Rv X.K ι H v d ∧ stT t d ds = some ds' ∧ ∀ σ', Rs X.K ι H σ' ds' → σ'.length = σ.length → (∀ i, i ∉ slT t → σ'[i]? = σ[i]?) → Q σ' H
def gRs (T : Tb) (X : Cx) (t : Tgs) : TGs := fun vs σ H Q => ∃ ι h ds gs ds', Rh (gm X T.cA) ι H h ∧ Rs X.K ι H σ ds ∧ All2 (Rv X.K ι H) vs gs ∧ stTs t gs ds = some ds' ∧ ∀ σ', Rs X.K ι H σ' ds' → σ'.length = σ.length → (∀ i, i ∉ slTs t → σ'[i]? = σ[i]?) → Q σ' H
theorem pg_imp {X : Cx} {e : Expr} {t t' : TG} (h : PG X e t) (i : ∀ v σ H Q, t' v σ H Q → t v σ H Q) : PG X e t' := ⟨fun pins s σ H v u Q I r q => h.run pins s σ H v u Q I r (i v σ H Q q)⟩
theorem pgs_imp {X : Cx} {e : List Expr} {t t' : TGs} (h : PGs X e t) (i : ∀ v σ H Q, t' v σ H Q → t v σ H Q) : PGs X e t' := ⟨fun pins s σ H v u Q I r q => h.run pins s σ H v u Q I r (i v σ H Q q)⟩
section
variable {T : Tb} {k : Nat} {X : Cx} {W : WX} {L : Lx} {pos : Pos} {es : List Expr} {e : Expr} {t : Tg} {ts : Tgs}
theorem g_name (o : XOk T k X W L) {n : Str} {i : Nat} (h : L.loc n = some i) : PG X (.Name n pos) (gR T X (.name i)) := by
  obtain ⟨h1, h2, h3⟩ := o.loc h
  refine pg_imp (pg_name o.nd h1 h2 h3) fun v σ H Q ⟨ι, h, ds, d, ds', rh, rs, rv, st, q⟩ => ?_
  simp only [stT, Option.some.injEq] at st
  subst st
  refine q _ (rs.put i rv) (by simp) fun j hj => ?_
  simp only [slT, List.mem_singleton] at hj
  exact List.getElem?_set_ne (Ne.symm hj)
theorem g_nil : PGs X [] (gRs T X .nil) := by
  refine pgs_imp pgs_nil fun vs σ H Q ⟨ι, h, ds, gs, ds', rh, rs, rv, st, q⟩ => ?_
  cases rv with
  | nil =>
    simp only [stTs, Option.some.injEq] at st
    subst st
    exact ⟨rfl, q σ rs rfl fun _ _ => rfl⟩
  | cons _ _ => simp [stTs] at st
theorem g_cons (hs : isStar e = false) (h1 : PG X e (gR T X t)) (h2 : PGs X es (gRs T X ts)) : PGs X (e :: es) (gRs T X (.cons t ts)) := by
  refine pgs_imp (pgs_cons h1 h2 (by cases e <;> first | rfl | cases hs)) fun vs σ H Q ⟨ι, h, ds, gs, ds', rh, rs, rv, st, q⟩ => ?_
  cases rv with
  | nil => simp [stTs] at st
  | cons r rr =>
    simp only [stTs] at st
    split at st
    · rename_i ds1 h1
      refine ⟨_, _, rfl, ι, h, ds, _, ds1, rh, rs, r, h1, fun σ1 rs1 l1 f1 => ⟨ι, h, ds1, _, ds', rh, rs1, rr, st, fun σ2 rs2 l2 f2 => q σ2 rs2 (l2.trans l1) fun i hi => ?_⟩⟩
      simp only [slTs, List.mem_append, not_or] at hi
      rw [f2 i hi.2, f1 i hi.1]
    · cases st
theorem each_len {env : Env} : ∀ {es : List Expr}, (assignEach es env).length = es.length
  | [] => rfl
  | e :: r => by cases e <;> simp [assignEach, each_len (es := r)]
theorem each_star {env : Env} : ∀ {es : List Expr}, es.any isStar = false → (assignEach es env).findIdx? (·.1) = none
  | [], _ => rfl
  | e :: r, h => by
    simp only [List.any_cons, Bool.or_eq_false_iff] at h
    have ih := each_star (env := env) h.2
    cases e <;> first | (simp only [assignEach, List.findIdx?_cons, ih]; rfl) | (simp [isStar] at h)
theorem g_tup (o : XOk T k X W L) {j : Nat} (h : PGs X es (gRs T X ts)) (hs : es.any isStar = false) (hl : tsLen ts = es.length) : PG X (.Tuple es j pos) (gR T X (.tup ts)) := by
  refine pg_imp (pg_tup o.hc h each_len (each_star hs)) fun v σ H Q ⟨ι, h, ds, d, ds', rh, rs, rv, st, q⟩ => ?_
  cases d <;> try simp [stT] at st
  rename_i xs
  obtain ⟨a, vs, rfl, sq, ra⟩ := rv.of_tup
  refine ⟨a, vs, rfl, sq, ?_, ι, h, ds, xs, ds', rh, rs, ra, st, fun σ' r1 l1 f1 => q σ' r1 l1 fun i hi => f1 i (by simpa [slT] using hi)⟩
  rw [ra.len, stTs_len st, hl]

/-! ### what is walked -/
def Wk (G : Gm) (ι : List Addr) (H : Hp) (J : L2.It) (s : Src) : Prop := ∀ (ι' : List Addr) (H' : Hp) (h' : Hh), Ext ι H ι' H' → Rh G ι' H' h' →
  (∀ (i : Nat) (d : D), i < s.n → s.at_ h' i = some d → J.go i H' ∧ ∀ x H'', J.yld i H' x H'' → Ext ι' H' ι' H'' ∧ Rh G ι' H'' h' ∧ Rv G.K ι' H'' x d) ∧ (s.fin h' = true → J.stop s.n H')
abbrev wR (T : Tb) (k : Nat) (X : Cx) (W : WX) (s : It) : TI := tR (gm X T.cA) W (Wk (gm X T.cA)) (evIt T.P (fnAt T.P k) s)
theorem pi_imp {X : Cx} {tg e : Expr} {t t' : TI} (h : PI X tg e t) (i : ∀ σ H R, t' σ H R → t σ H R) : PI X tg e t' := ⟨fun pins s σ H R I q => h.run pins s σ H R I (i σ H R q)⟩
theorem i_e {a tg : Expr} {x : E} (ha : PE X a (rE T k X W x)) : PI X tg a (wR T k X W (.e x)) := by
  refine ⟨fun pins s σ H R I ⟨ι, h, ds, rh, rs, p⟩ => ?_⟩
  simp only [evIt] at p
  cases hr : evE T.P (fnAt T.P k) x ds h with
  | bad => rw [hr] at p; exact p.elim
  | exc c fs σ' h' =>
    rw [hr] at p
    exact (pi_list ha).run pins s σ H R I ⟨ι, h, ds, rh, rs, by rw [hr]; exact p⟩
  | ok d h1 =>
    rw [hr] at p
    simp only [Res.bind] at p
    obtain ⟨src, hsrc, p⟩ := p.lift
    unfold srcOf at hsrc
    split at hsrc
    · rename_i xs
      cases hsrc
      refine (pi_tup ha).run pins s σ H R I ⟨ι, h, ds, rh, rs, ?_⟩
      rw [hr]
      intro v ι1 H1 e1 rh1 rv
      obtain ⟨a, vs, rfl, sq, ra⟩ := rv.of_tup
      refine ⟨a, rfl, ⟨vs, sq⟩, p _ ι1 H1 e1 rh1 fun ι2 H2 h2 e2 rh2 => ?_⟩
      have w := walk_tup (K := X.K) (a := a) (xs := vs)
      have sq2 := e2.sqT sq
      have ra2 := ext2 e2 ra
      refine ⟨fun i d hi hd => ⟨w.goes i H2 (by rw [ra.len]; exact hi) sq2, fun z H3 hy => ?_⟩, fun _ => by have := w.stops H2 sq2; rw [ra.len] at this; exact this⟩
      obtain ⟨e3, q3⟩ := w.yields i H2 z H3 (by rw [ra.len]; exact hi) sq2 hy
      subst e3
      obtain ⟨y, h1, h2⟩ := ra2.getR (show xs[i]? = some d from hd)
      rw [h1] at q3
      cases q3
      exact ⟨.refl, rh2, h2⟩
    · rename_i z
      cases hsrc
      refine (pi_str ha).run pins s σ H R I ⟨ι, h, ds, rh, rs, ?_⟩
      rw [hr]
      intro v ι1 H1 e1 rh1 rv
      cases rv
      refine ⟨z, rfl, p _ ι1 H1 e1 rh1 fun ι2 H2 h2 e2 rh2 => ?_⟩
      have w := walk_str (z := z)
      refine ⟨fun i d hi hd => ?_, fun _ => by have := w.stops H2 trivial; simpa [srcImm] using this⟩
      have hi' : i < z.cps.size := by simpa [srcImm] using hi
      refine ⟨w.goes i H2 hi' trivial, fun y H3 hy => ?_⟩
      obtain ⟨e3, c, hc, ey⟩ := w.yields i H2 y H3 hi' trivial hy
      subst e3
      subst ey
      have hd' : (z.cps.toList.map fun c => D.str ⟨#[c]⟩)[i]? = some d := hd
      rw [List.getElem?_map, Array.getElem?_toList, hc] at hd'
      cases hd'
      exact ⟨.refl, rh2, .str _⟩
    · rename_i j
      have cell : ∀ xs : List D, lstOf h1 (.ref j) = some xs → src = srcCell j xs.length → wpAny (model X.prog X.w) X.A (eval a X.env) (fun v s1 => wpAny (model X.prog X.w) X.A (pyIter v) (PIE X pins σ tg R) X.xe s1) X.xe s := by
        intro xs hl es
        subst es
        refine (pi_list ha).run pins s σ H R I ⟨ι, h, ds, rh, rs, ?_⟩
        rw [hr]
        intro v ι1 H1 e1 rh1 rv
        obtain ⟨a, vs, rfl, sq, ra⟩ := lst_of (G := gm X T.cA) rh1 rv hl
        refine ⟨a, rfl, ⟨vs, sq⟩, p _ ι1 H1 e1 rh1 fun ι2 H2 h2 e2 rh2 => ?_⟩
        have rv2 := rv.ext e2
        have now : ∀ ys, lstOf h2 (.ref j) = some ys → ∃ ws, SqL X.K H2 a ws ∧ All2 (Rv X.K ι2 H2) ws ys := fun ys hy => by
          obtain ⟨a', ws, ea, q, r⟩ := lst_of (G := gm X T.cA) rh2 rv2 hy
          cases ea
          exact ⟨ws, q, r⟩
        refine ⟨fun i d hi hd => ?_, fun hf => ?_⟩
        · simp only [srcCell] at hd
          split at hd
          · rename_i ys hy
            split at hd
            · rename_i hn
              obtain ⟨ws, q, r⟩ := now ys hy
              have w := walk_list (K := X.K) (a := a) (xs := ws)
              have hi' : i < ws.length := by rw [r.len, hn]; exact hi
              refine ⟨w.goes i H2 hi' q, fun z H3 hz => ?_⟩
              obtain ⟨e3, q3⟩ := w.yields i H2 z H3 hi' q hz
              subst e3
              obtain ⟨y, g1, g2⟩ := r.getR hd
              rw [g1] at q3
              cases q3
              exact ⟨.refl, rh2, g2⟩
            · cases hd
          · cases hd
        · simp only [srcCell] at hf
          split at hf
          · rename_i ys hy
            obtain ⟨ws, q, r⟩ := now ys hy
            have w := (walk_list (K := X.K) (a := a) (xs := ws)).stops H2 q
            rw [r.len, of_decide_eq_true hf] at w
            exact w
          · cases hf
      split at hsrc
      · rename_i xs hc; cases hsrc; exact cell xs (by simp [lstOf, hc]) rfl
      · rename_i xs hc; cases hsrc; exact cell xs (by simp [lstOf, hc]) rfl
      · cases hsrc
    · cases hsrc
theorem rg_walk {ι : List Addr} {H : Hp} {lo hi : Int} : Wk (gm X T.cA) ι H (Itr lo (hi - lo).toNat) (srcRange lo hi) := by
  intro ι2 H2 h2 e2 rh2
  have w := walk_range (lo := lo) (n := (hi - lo).toNat)
  refine ⟨fun i d hi' hd => ⟨w.goes i H2 hi' trivial, fun z H3 hz => ?_⟩, fun _ => w.stops H2 trivial⟩
  obtain ⟨e3, q3⟩ := w.yields i H2 z H3 hi' trivial hz
  subst e3
  subst q3
  simp only [srcRange, Option.some.injEq] at hd
  subst hd
  exact ⟨.refl, rh2, .int _⟩
theorem i_r1 (o : XOk T k X W L) {a tg : Expr} {x : E} {p0 : Pos} (hf : isFree T.G L "range" = true) (hs : isStar a = false) (ha : PE X a (rE T k X W x)) : PI X tg (.Call (.Name "range" p0) [a] [] pos) (wR T k X W (.range1 x)) := by
  obtain ⟨_, g1, m1⟩ := o.free hf
  refine pi_imp (pi_range1 g1 m1 (pa_cons ha pa_nil (star_not hs)) (star_not hs)) fun σ H R ⟨ι, h, ds, rh, rs, p⟩ => ?_
  simp only [evIt] at p
  refine ⟨ι, h, ds, rh, rs, (Post.seq p rs).mono ?_⟩
  rintro v H1 ⟨d, ι1, h1, e1, rh1, rs1, rd, p1⟩
  cases d <;> try exact p1.elim
  rename_i n
  cases rd
  dsimp only at p1
  split at p1
  · rename_i ok
    have q := rg_ok ok
    have z := p1 (Itr 0 (n - 0).toNat) ι1 H1 .refl rh1 rg_walk
    rw [Int.sub_zero] at z
    exact ⟨n, rfl, q.2.2.1, q.2.2.2.1, z⟩
  · exact p1.elim
theorem i_r2 (o : XOk T k X W L) {a b tg : Expr} {x y : E} {p0 : Pos} (hf : isFree T.G L "range" = true) (hs : isStar a = false) (hs2 : isStar b = false) (ha : PE X a (rE T k X W x)) (hb : PE X b (rE T k X W y)) : PI X tg (.Call (.Name "range" p0) [a, b] [] pos) (wR T k X W (.range2 x y)) := by
  obtain ⟨_, g1, m1⟩ := o.free hf
  refine pi_imp (pi_range2 g1 m1 (pa_cons ha (pa_cons hb pa_nil (star_not hs2)) (star_not hs)) (by rw [star_not hs, star_not hs2]; rfl) (star_not hs2)) fun σ H R ⟨ι, h, ds, rh, rs, p⟩ => ?_
  simp only [evIt] at p
  refine ⟨ι, h, ds, rh, rs, (Post.seq p rs).mono ?_⟩
  rintro v H1 ⟨d, ι1, h1, e1, rh1, rs1, rd, p1⟩
  refine ⟨ι1, h1, ds, rh1, rs1, (Post.seq p1 rs1).mono ?_⟩
  rintro w H2 ⟨g, ι2, h2, e2, rh2, rs2, rg, p2⟩
  cases d <;> try exact p2.elim
  cases g <;> try exact p2.elim
  rename_i m n
  cases rd
  cases rg
  dsimp only at p2
  split at p2
  · rename_i ok
    have q := rg_ok ok
    exact ⟨m, n, rfl, ⟨q.1, q.2.1, q.2.2.1, q.2.2.2.1⟩, p2 (Itr m (n - m).toNat) ι2 H2 .refl rh2 rg_walk⟩
  · exact p2.elim
end
end Q
end
section
set_option autoImplicit false
set_option Elab.async false
set_option linter.all false
set_option maxRecDepth 4000
set_option maxHeartbeats 1000000
/-! Q: list comprehensions. -/
namespace Q
open PySem L2 PySem.Spec PyProof.Rows

section
variable {G : Gm} {ι ι' : List Addr} {H H' : Hp} {h : Hh} {p : Addr} {o u : HO}
/-- something beside, made since -/
theorem Ext.side (e : Ext ι H ι' H') (hp : H p = none) : Ext ι H ι' (upd H' p o) := by
  have ne : ∀ a x, H a = some x → a ≠ p := fun a x q z => by rw [z, hp] at q; cases q
  refine ⟨e.pre, fun a x q nq => by rw [upd_ne (ne a x q)]; exact e.keep a x q nq, fun a q => ?_, fun a xs q => by rw [upd_ne (ne a _ q)]; exact e.tups a xs q, fun a x y q => by rw [upd_ne (ne a _ q)]; exact e.frzs a x y q⟩
  by_cases z : a = p
  · rw [z]; exact hp
  · rw [upd_ne z] at q; exact e.live a q
theorem Ext.add (e : Ext ι H ι' H') (hp : H p = none) : Ext ι H (ι' ++ [p]) H' := by
  obtain ⟨κ, e1, n1⟩ := e.pre
  refine ⟨⟨κ ++ [p], by rw [e1, List.append_assoc], fun a ha => ?_⟩, e.keep, e.live, e.tups, e.frzs⟩
  rcases List.mem_append.mp ha with z | z
  · exact n1 a z
  · rw [List.mem_singleton.mp z]; exact hp
theorem upd_id (q : H p = some o) : upd H p o = H := by
  funext a
  by_cases z : a = p
  · rw [z, upd_same, q]
  · rw [upd_ne z]
/-- a thing beside the cells changes -/
theorem Rh.side (rh : Rh G ι H h) (np : p ∉ ι) (hp : H p = some u) (hu : ∀ o x, u ≠ .frz o x) (hut : ∀ xs, u ≠ .tup xs) : Ext0 ι H ι (upd H p o) ∧ Rh G ι (upd H p o) h := by
  have e : Ext0 ι H ι (upd H p o) := ⟨fun _ _ q => q, fun a xs q => by rw [upd_ne (fun z => by rw [z, hp] at q; exact hut _ (Option.some.inj q))]; exact q,
    fun a x y q => by rw [upd_ne (fun z => by rw [z, hp] at q; exact hu _ _ (Option.some.inj q))]; exact q⟩
  exact ⟨e, rh.len, rh.nd, fun i a c q1 q2 => (rh.at_ i a c q1 q2).ext0 e (upd_ne fun z => np (z ▸ List.mem_of_getElem? q1))⟩
theorem Ext.out (e : Ext ι H ι' H') (np : p ∉ ι) (hp : H p ≠ none) : p ∉ ι' := fun z => by
  obtain ⟨κ, e1, n1⟩ := e.pre
  rw [e1] at z
  rcases List.mem_append.mp z with z | z
  · exact np z
  · exact hp (n1 _ z)
end
/-- the loop's list only grows -/
theorem goLc_len {α : Type} {s : Src} {f : D → Hh → Res (Option α)} : ∀ {r k : Nat} {acc : List α} {h : Hh}, goLc s f r k acc h = .bad ∨ ∃ fs h', goLc s f r k acc h = .ok fs h' ∧ acc.length ≤ fs.length ∧ fs.length < maxLen
  | 0, k, acc, h => by
    unfold goLc
    split
    · rename_i hc
      simp only [Bool.and_eq_true, decide_eq_true_eq] at hc
      exact .inr ⟨acc, h, rfl, Nat.le_refl _, hc.2⟩
    · exact .inl rfl
  | r + 1, k, acc, h => by
    unfold goLc
    split
    · exact .inl rfl
    · rename_i d _
      cases hf : f d h with
      | bad => exact .inl rfl
      | exc _ _ _ _ => exact .inl rfl
      | ok o h' =>
        cases o with
        | none => exact goLc_len (r := r)
        | some a =>
          rcases goLc_len (s := s) (f := f) (r := r) (k := k + 1) (acc := acc ++ [a]) (h := h') with z | ⟨fs, h2, e, l1, l2⟩
          · exact .inl z
          · exact .inr ⟨fs, h2, e, by simp at l1; omega, l2⟩
theorem Rs.wipe {K : PySem.W.Frag} {ι : List Addr} {H : Hp} {σ : L2.St} {ds : Sl} (r : Rs K ι H σ ds) : ∀ vs : List Nat, Rs K ι H (L2.wipe σ vs) (wipeS ds vs)
  | [] => r
  | v :: vs => by
    have ih := Rs.wipe r vs
    show Rs K ι H ((L2.wipe σ vs).set v none) ((wipeS ds vs).set v none)
    refine ⟨by simp [ih.len], fun j e q => ?_⟩
    by_cases hj : v = j
    · subst hj
      have hl : v < (wipeS ds vs).length := by have := (List.getElem?_eq_some_iff.mp q).1; simpa using this
      rw [List.getElem?_set_self hl] at q
      cases q
    · rw [List.getElem?_set_ne hj] at q ⊢
      exact ih.at_ j e q
theorem wipe_in {σ : L2.St} : ∀ {vs : List Nat} {i : Nat}, i ∈ vs → i < σ.length → (L2.wipe σ vs)[i]? = some none
  | v :: vs, i, h, hl => by
    unfold L2.wipe
    by_cases hv : v = i
    · subst hv
      rw [List.getElem?_set_self (by rw [wipe_length]; exact hl)]
    · rw [List.getElem?_set_ne hv]
      rcases List.mem_cons.mp h with z | z
      · exact absurd z.symm hv
      · exact wipe_in z hl
theorem wipe_eq {σ σ2 : L2.St} {vs sl : List Nat} (hl : σ2.length = (L2.wipe σ vs).length) (hf : ∀ i, i ∉ sl → σ2[i]? = (L2.wipe σ vs)[i]?) (hs : ∀ i ∈ sl, i ∈ vs) : L2.wipe σ2 vs = L2.wipe σ vs := by
  rw [wipe_length] at hl
  refine List.ext_getElem? fun i => ?_
  by_cases hi : i ∈ vs
  · by_cases hb : i < σ.length
    · rw [wipe_in hi hb, wipe_in hi (by omega)]
    · rw [List.getElem?_eq_none (by rw [wipe_length]; omega), List.getElem?_eq_none (by rw [wipe_length]; omega)]
  · rw [wipe_out hi, hf i fun z => hi (hs i z)]
section
variable {T : Tb} {k : Nat} {X : Cx} {W : WX} {L : Lx} {pos : Pos} {elt tg iter : Expr} {ifs : List Expr} {scope : Scope} {t : Tg} {it : It} {fs : Es} {x : E} {own : List Nat}
/-- a comprehension's reading, from its run -/
theorem lc_read (hp : pur t = true) (hs : ∀ i ∈ slT t, i ∈ own) (σ : L2.St) (H : Hp) (Q : VK) (q : rE T k X W (.lc x t it fs own) σ H Q) : tLc (wR T k X W it) (gR T X t) (rTs T k X WN fs) (rE T k X WN x) own σ H Q := by
  obtain ⟨ι, h, ds, rh, rs, p⟩ := q
  simp only [evE] at p
  refine ⟨ι, h, ds, rh, rs, (Post.seqE p rs).mono ?_⟩
  rintro J H1 ⟨src, ι1, h1, q1, e1, rh1, rs1, wk, p1⟩ D hD
  generalize hF : (fun (d : _root_.Q.D) (h2 : Hh) => (asT T.P (fnAt T.P k) t d (wipeS ds own) h2).bind fun σ' h3 => (evTs T.P (fnAt T.P k) fs σ' h3).bind fun b h4 => match b with
      | true => (evE T.P (fnAt T.P k) x σ' h4).bind fun e h5 => Res.ok (some e) h5
      | false => .ok none h4) = F at p1
  have nu : ∀ vs (o : Obj) (x : HO), HO.lst vs ≠ .frz o x := fun _ _ _ z => by cases z
  have nut : ∀ vs xs, HO.lst vs ≠ .tup xs := fun _ _ z => by cases z
  have nD : D ∉ ι1 := fun z => rh1.live z hD
  refine ⟨fun i m Hc => m = src.n - i ∧ i ≤ src.n ∧ ∃ ι2 h2 acc vacc, Ext ι1 H1 ι2 Hc ∧ Rh (gm X T.cA) ι2 Hc h2 ∧ Hc D = some (.lst vacc) ∧ D ∉ ι2 ∧ All2 (Rv X.K ι2 Hc) vacc acc ∧
    Post (gm X T.cA) W (Rv X.K) σ ι1 H1 ((goLc src F (src.n - i) i acc h2).bind fun ds h2 => .ok (.ref h2.length) (h2 ++ [.lst ds])) Q, ⟨src.n, rfl, Nat.zero_le _, ι1, h1, [], [], Ext.refl.side hD, rh1.tup hD, upd_same, nD, .nil, p1⟩, ?_⟩
  rintro i m Hc ⟨rfl, hi, ι2, h2, acc, vacc, e2, rh2, hDc, nD2, racc, p2⟩
  obtain ⟨w1, w2⟩ := wk ι2 Hc h2 e2 rh2
  by_cases hlt : i < src.n
  · obtain ⟨r, hr⟩ : ∃ r, src.n - i = r + 1 := ⟨src.n - i - 1, by omega⟩
    have hr' : src.n - (i + 1) = r := by omega
    rw [hr] at p2
    have lenc := goLc_len (s := src) (f := F) (r := r + 1) (k := i) (acc := acc) (h := h2)
    unfold goLc at p2
    cases hat : src.at_ h2 i with
    | none => rw [hat] at p2; exact p2.elim
    | some d =>
      rw [hat] at p2
      dsimp only at p2
      obtain ⟨g1, g2⟩ := w1 i d hlt hat
      refine .inr ⟨g1, _, fun H' hn => ⟨src.n - (i + 1), by omega, hn⟩, fun xv H3 hy => ?_⟩
      obtain ⟨e3, rh3, rd⟩ := g2 xv H3 hy
      have rs3 : Rs X.K ι2 H3 (L2.wipe σ own) (wipeS ds own) := ((rs1.ext (e2.trans e3)).wipe own)
      have hD3 : H3 D = some (.lst vacc) := e3.keep D _ hDc nD2
      rw [← hF] at p2
      dsimp only at p2
      rw [hF, asT_st hp] at p2
      cases hst : stT t d (wipeS ds own) with
      | none => rw [hst] at p2; exact p2.elim
      | some ds' =>
        rw [hst] at p2
        simp only [okS, Res.bind] at p2
        refine ⟨ι2, h2, wipeS ds own, d, ds', rh3, rs3, rd, hst, fun σ2 rs4 l4 f4 => ⟨wipe_eq l4 f4 hs, ι2, h2, ds', rh3, rs4, ?_⟩⟩
        cases hts : evTs T.P (fnAt T.P k) fs ds' h2 with
        | bad => rw [hts] at p2; exact p2.elim
        | exc _ _ _ _ => rw [hts] at p2; exact p2.elim
        | ok b h4 =>
          rw [hts] at p2
          simp only [Res.bind] at p2
          intro b' ι4 H4 e4 rh4 rb
          cases rb
          have nD4 : D ∉ ι4 := e4.out nD2 (by rw [hD3]; nofun)
          have hD4 : H4 D = some (.lst vacc) := e4.keep D _ hD3 nD2
          cases b with
          | false =>
            rw [if_neg (by decide)]
            refine ⟨rfl, hlt, ι4, h4, acc, vacc, (e2.trans e3).trans e4, rh4, hD4, nD4, ext2 (e3.trans e4) racc, ?_⟩
            rw [hr']
            exact p2
          | true =>
            rw [if_pos rfl]
            refine ⟨ι4, h4, ds', rh4, rs4.ext e4, ?_⟩
            dsimp only at p2
            cases hex : evE T.P (fnAt T.P k) x ds' h4 with
            | bad => rw [hex] at p2; exact p2.elim
            | exc _ _ _ _ => rw [hex] at p2; exact p2.elim
            | ok y h5 =>
              rw [hex] at p2
              simp only [Res.bind, Res.bindN] at p2
              intro yv ι5 H5 e5 rh5 ry
              have nD5 : D ∉ ι5 := e5.out nD4 (by rw [hD4]; nofun)
              have hD5 : H5 D = some (.lst vacc) := e5.keep D _ hD4 nD4
              have racc5 := ext2 ((e3.trans e4).trans e5) racc
              have small : acc.length + 1 < maxLen := by
                rcases goLc_len (s := src) (f := F) (r := r) (k := i + 1) (acc := acc ++ [y]) (h := h5) with z | ⟨gs, h6, z, l1, l2⟩
                · rw [z] at p2; exact p2.elim
                · simp at l1; omega
              refine ⟨vacc, hD5, by rw [racc5.len]; have := maxLen_line; omega, ?_⟩
              obtain ⟨e6, rh6⟩ := rh5.side (o := .lst (vacc ++ [yv])) nD5 hD5 (nu _) (nut _)
              refine ⟨rfl, hlt, ι5, h5, acc ++ [y], vacc ++ [yv], (((e2.trans e3).trans e4).trans e5).side hD, rh6, upd_same, nD5, (ext20 e6 racc5).app (.cons (ry.ext0 e6) .nil), ?_⟩
              rw [hr']
              exact p2
  · have ei : i = src.n := by omega
    subst ei
    rw [Nat.sub_self] at p2
    unfold goLc at p2
    split at p2
    · rename_i hc
      simp only [Bool.and_eq_true, decide_eq_true_eq] at hc
      refine .inl ⟨w2 hc.1, ?_⟩
      simp only [Res.bind] at p2
      refine p2 _ (ι2 ++ [D]) Hc (e2.add hD) ?_ (.ref (by rw [← rh2.len]; simp))
      have e7 := ext0_late (ι1 := ι2) (u' := .lst vacc) hDc (nu _) (nut _)
      have := rh2.late (u' := .lst vacc) (c := .lst acc) nD2 hDc (nu _) (nut _) ⟨vacc, upd_same, ext20 e7 racc⟩
      rw [upd_id hDc] at this
      exact this
    · exact p2.elim
theorem ts_nil : PTs X [] (rTs T k X W .nil) := ⟨fun pins s σ H Q I ⟨ι, h, ds, rh, rs, p⟩ => pts_nil.run pins s σ H Q I (Post.now (a := true) (h := h) p rh rfl)⟩
theorem ts_one {c : Expr} {y : E} (hc : PT X c (rB T k X W y)) : PTs X [c] (rTs T k X W (.cons y .nil)) := by
  refine ⟨fun pins s σ H Q I ⟨ι, h, ds, rh, rs, p⟩ => (pts_one hc).run pins s σ H Q I ?_⟩
  simp only [evTs] at p
  have p' : Post (gm X T.cA) W Req σ ι H ((evB T.P (fnAt T.P k) y ds h).bind fun t h1 => .ok t h1) Q := by
    refine evB_look ?_
    refine cast ?_ p
    congr 2
    funext d h1
    cases truth h1 d with
    | none => rfl
    | some t => cases t <;> rfl
  refine ⟨ι, h, ds, rh, rs, (Post.seq (Rep := Req) p' rs).mono ?_⟩
  rintro t H1 ⟨t', ι1, h1, e1, rh1, rs1, rt, p1⟩
  cases rt
  exact p1.now rh1 rfl
end
end Q
end
section
set_option autoImplicit false
set_option Elab.async false
set_option linter.all false
set_option maxRecDepth 4000
set_option maxHeartbeats 1000000
/-! Q: statements. -/
namespace Q
open PySem L2 PySem.Spec PyProof.Rows

def PostS (G : Gm) (W : WX) (ι : List Addr) (H : Hp) (r : Res (Fl × Sl)) (D : Ends) : Prop := match r with
  | .ok (.nx, ds) h => ∀ σ' ι' H', Ext ι H ι' H' → Rh G ι' H' h → Rs G.K ι' H' σ' ds → D.nx σ' H'
  | .ok (.rt d, _) h => ∀ v ι' H', Ext ι H ι' H' → Rh G ι' H' h → Rv G.K ι' H' v d → D.rt v H'
  | .exc c fs ds h => ∀ cv dd σ' ι' H', Ext ι H ι' H' → Rh G ι' H' h → Rs G.K ι' H' σ' ds → Rx G c fs cv dd ι' H' → W cv dd σ' H'
  | .bad => False
section
variable {α β : Type} {G : Gm} {W : WX} {Rep : List Addr → Hp → β → α → Prop} {σ : L2.St} {ι ι' : List Addr} {H H' : Hp} {h : Hh} {ds : Sl} {D D' : Ends}
theorem PostS.later {r : Res (Fl × Sl)} (e : Ext ι H ι' H') (p : PostS G W ι H r D) : PostS G W ι' H' r D := by
  cases r with
  | ok q h =>
    obtain ⟨f, ds⟩ := q
    cases f with
    | nx => exact fun σ' ι2 H2 e2 => p σ' ι2 H2 (e.trans e2)
    | rt d => exact fun v ι2 H2 e2 => p v ι2 H2 (e.trans e2)
  | exc c fs ds h => exact fun cv dd σ' ι2 H2 e2 => p cv dd σ' ι2 H2 (e.trans e2)
  | bad => exact p
/-- an expression's step in a statement -/
theorem PostS.step {r : Res α} {k : α → Hh → Res (Fl × Sl)} (p : PostS G W ι H ((r.atS ds).bind k) D) (rs : Rs G.K ι H σ ds) :
    Post G W Rep σ ι H r fun b H1 => ∃ a ι1 h1, r = .ok a h1 ∧ Ext ι H ι1 H1 ∧ Rh G ι1 H1 h1 ∧ Rs G.K ι1 H1 σ ds ∧ Rep ι1 H1 b a ∧ PostS G W ι1 H1 (k a h1) D := by
  cases r with
  | ok a h' => exact fun b ι2 H2 e2 rh rp => ⟨a, ι2, h', rfl, e2, rh, rs.ext e2, rp, PostS.later e2 p⟩
  | exc c fs s' h' => exact fun cv dd ι2 H2 e2 rh rx => p cv dd σ ι2 H2 e2 rh (rs.ext e2) rx
  | bad => exact p
theorem PostS.imp {r : Res (Fl × Sl)} (p : PostS G W ι H r D) (h1 : ∀ σ H, D.nx σ H → D'.nx σ H) (h2 : ∀ v H, D.rt v H → D'.rt v H) : PostS G W ι H r D' := by
  cases r with
  | ok q h =>
    obtain ⟨f, ds⟩ := q
    cases f with
    | nx => exact fun σ' ι2 H2 e2 a b => h1 _ _ (p σ' ι2 H2 e2 a b)
    | rt d => exact fun v ι2 H2 e2 a b => h2 _ _ (p v ι2 H2 e2 a b)
  | exc c fs ds h => exact p
  | bad => exact p
/-- statements in a row -/
theorem PostS.seqS {r : Res (Fl × Sl)} {k : Sl → Hh → Res (Fl × Sl)} {bk ct : L2.St → Hp → Prop} (p : PostS G W ι H (r.bind fun q h1 => match q.1 with
    | .nx => k q.2 h1
    | .rt d => .ok (.rt d, q.2) h1) D) :
    PostS G W ι H r ⟨fun σ' H1 => ∃ ι1 h1 ds1, Ext ι H ι1 H1 ∧ Rh G ι1 H1 h1 ∧ Rs G.K ι1 H1 σ' ds1 ∧ PostS G W ι1 H1 (k ds1 h1) D, D.rt, bk, ct⟩ := by
  cases r with
  | ok q h =>
    obtain ⟨f, ds⟩ := q
    cases f with
    | nx => exact fun σ' ι2 H2 e2 rh rs => ⟨ι2, h, ds, e2, rh, rs, PostS.later e2 p⟩
    | rt d => exact p
  | exc c fs ds h => exact p
  | bad => exact p
end
def rS (T : Tb) (X : Cx) (W : WX) (f : Sl → Hh → Res (Fl × Sl)) : TS := fun D σ H => ∃ ι h ds, Rh (gm X T.cA) ι H h ∧ Rs X.K ι H σ ds ∧ PostS (gm X T.cA) W ι H (f ds h) D
abbrev rSt (T : Tb) (k : Nat) (X : Cx) (W : WX) (s : S) : TS := rS T X W (evS T.P (fnAt T.P k) s)
abbrev rSs (T : Tb) (k : Nat) (X : Cx) (W : WX) (s : Ss) : TS := rS T X W (evSs T.P (fnAt T.P k) s)
section
variable {T : Tb} {k : Nat} {X : Cx} {W : WX} {L : Lx} {pos : Pos} {a b c e : Expr} {x y z : E} {p q : Ss} {bs cs : List Stmt} {t : Tg} {it : It}
theorem swaps_no {t : Option Expr} {l : Nat} {env : Env} (h : isCompr e = false) : swapsWith e t l env = pure false := by cases e <;> first | rfl | (simp [isCompr] at h)
theorem s_nil : PSs X [] (rSs T k X W .nil) := by
  refine pss_imp pss_nil fun D σ H ⟨ι, h, ds, rh, rs, p⟩ => ?_
  simp only [evSs] at p
  exact p σ ι H .refl rh rs
theorem s_cons {st : Stmt} {sts : List Stmt} {s : S} {r : Ss} (h1 : PS X st (rSt T k X W s)) (h2 : PSs X sts (rSs T k X W r)) : PSs X (st :: sts) (rSs T k X W (.cons s r)) := by
  refine pss_imp (pss_cons h1 h2) fun D σ H ⟨ι, h, ds, rh, rs, p⟩ => ?_
  simp only [evSs] at p
  refine ⟨ι, h, ds, rh, rs, (PostS.seqS (bk := fun _ _ => False) (ct := fun _ _ => False) p).imp (fun σ' H1 ⟨ι1, h1, ds1, e1, rh1, rs1, p1⟩ => ⟨ι1, h1, ds1, rh1, rs1, p1⟩) fun _ _ z => z⟩
theorem s_expr (he : PE X e (rE T k X W x)) (hc : isCompr e = false) : PS X (.Expr e pos) (rSt T k X W (.expr x)) := by
  refine ps_imp (ps_expr he (swaps_no hc)) fun D σ H ⟨ι, h, ds, rh, rs, p⟩ => ?_
  simp only [evS] at p
  refine ⟨ι, h, ds, rh, rs, (PostS.step p rs).mono ?_⟩
  rintro v H1 ⟨d, ι1, h1, q1, e1, rh1, rs1, rd, p1⟩
  exact p1 σ ι1 H1 .refl rh1 rs1
theorem s_pass : PS X (.Pass pos) (rSt T k X W .pass) := by
  refine ps_imp ps_pass fun D σ H ⟨ι, h, ds, rh, rs, p⟩ => ?_
  simp only [evS] at p
  exact p σ ι H .refl rh rs
theorem s_ret (he : PE X e (rE T k X W x)) : PS X (.Return (some e) pos) (rSt T k X W (.ret x)) := by
  refine ps_imp (ps_ret he) fun D σ H ⟨ι, h, ds, rh, rs, p⟩ => ?_
  simp only [evS] at p
  refine ⟨ι, h, ds, rh, rs, (PostS.step p rs).mono ?_⟩
  rintro v H1 ⟨d, ι1, h1, q1, e1, rh1, rs1, rd, p1⟩
  exact p1 v ι1 H1 .refl rh1 rd
theorem s_retN : PS X (.Return none pos) (rSt T k X W (.ret (.lit .non))) := by
  refine ps_imp ps_retN fun D σ H ⟨ι, h, ds, rh, rs, p⟩ => ?_
  simp only [evS, evE] at p
  exact p .non ι H .refl rh .non
theorem s_iff (hc : PT X c (rB T k X W z)) (ha : PSs X bs (rSs T k X W p)) (hb : PSs X cs (rSs T k X W q)) : PS X (.If c bs cs pos) (rSt T k X W (.iff z p q)) := by
  refine ps_imp (ps_if hc ha hb) fun D σ H ⟨ι, h, ds, rh, rs, p⟩ => ?_
  simp only [evS] at p
  refine ⟨ι, h, ds, rh, rs, (PostS.step (Rep := Req) p rs).mono ?_⟩
  rintro t H1 ⟨d, ι1, h1, q1, e1, rh1, rs1, rd, p1⟩
  cases rd
  cases t with
  | true => exact ⟨ι1, h1, ds, rh1, rs1, p1⟩
  | false => exact ⟨ι1, h1, ds, rh1, rs1, p1⟩
theorem s_raise {o : Option Expr} : PS X (.Raise o none pos) (rSt T k X W (.raise_ 0 .nil)) := by
  refine ps_imp ps_never fun D σ H ⟨ι, h, ds, rh, rs, p⟩ => ?_
  simp only [evS] at p
  exact p
theorem s_while (hp : PassesOwn (model X.prog X.w) X.A X.env X.xe) (hc : PT X c (rB T k X W z)) (hb : PSs X bs (rSs T k X W p)) : PS X (.While c bs [] pos) (rSt T k X W (.while_ z p)) := by
  refine ps_imp (ps_while hp hc hb) fun D σ H ⟨ι, h, ds, rh, rs, p⟩ => ?_
  simp only [evS] at p
  refine ⟨fun m σ H => ∃ ι h ds, Rh (gm X T.cA) ι H h ∧ Rs X.K ι H σ ds ∧ PostS (gm X T.cA) W ι H (goWhile _ _ m ds h) D, ⟨_, ι, h, ds, rh, rs, p⟩, ?_⟩
  rintro m σ H ⟨ι, h, ds, rh, rs, p⟩
  cases m with
  | zero => exact p.elim
  | succ m =>
    unfold goWhile at p
    refine ⟨ι, h, ds, rh, rs, (PostS.step (Rep := Req) p rs).mono ?_⟩
    rintro t H1 ⟨d, ι1, h1, q1, e1, rh1, rs1, rd, p1⟩
    cases rd
    cases t with
    | false => rw [if_neg (by decide)]; exact p1 σ ι1 H1 .refl rh1 rs1
    | true =>
      rw [if_pos rfl]
      refine ⟨fun σ' H' => ∃ ι h ds, Rh (gm X T.cA) ι H' h ∧ Rs X.K ι H' σ' ds ∧ PostS (gm X T.cA) W ι H' (goWhile _ _ m ds h) D, fun σ' H' hn => ⟨m, Nat.lt_succ_self m, hn⟩, ι1, h1, ds, rh1, rs1, ?_⟩
      exact (PostS.seqS (bk := fun _ _ => False) (ct := fun _ _ => False) p1).imp (fun σ' H2 ⟨ι2, h2, ds2, e2, rh2, rs2, p2⟩ => ⟨ι2, h2, ds2, rh2, rs2, p2⟩) fun _ _ z => z
theorem s_for (o : XOk T k X W L) (hp : PassesOwn (model X.prog X.w) X.A X.env X.xe) {tg iter : Expr} (hi : PI X tg iter (wR T k X W it)) (hg : PG X tg (gR T X t)) (ht : pur t = true) (hb : PSs X bs (rSs T k X W p)) (hs : isSetD iter = false) :
    PS X (.For tg iter bs [] pos) (rSt T k X W (.for_ t it p)) := by
  refine ps_imp (ps_for hp o.hc hi hg hb (fun v => by cases iter <;> first | rfl | (simp [isSetD] at hs))) fun D σ H ⟨ι, h, ds, rh, rs, p⟩ => ?_
  simp only [evS] at p
  refine ⟨ι, h, ds, rh, rs, (PostS.step p rs).mono ?_⟩
  rintro J H1 ⟨src, ι1, h1, q1, e1, rh1, rs1, wk, p1⟩
  refine ⟨fun i m σ Hc => m = src.n - i ∧ i ≤ src.n ∧ ∃ ι2 h2 ds2, Ext ι1 H1 ι2 Hc ∧ Rh (gm X T.cA) ι2 Hc h2 ∧ Rs X.K ι2 Hc σ ds2 ∧ PostS (gm X T.cA) W ι2 Hc (goFor src _ (src.n - i) i ds2 h2) D, ⟨src.n, rfl, Nat.zero_le _, ι1, h1, ds, .refl, rh1, rs1, p1⟩, ?_⟩
  rintro i m σ Hc ⟨rfl, hi, ι2, h2, ds2, e2, rh2, rs2, p2⟩
  obtain ⟨w1, w2⟩ := wk ι2 Hc h2 e2 rh2
  by_cases hlt : i < src.n
  · obtain ⟨r, hr⟩ : ∃ r, src.n - i = r + 1 := ⟨src.n - i - 1, by omega⟩
    have hr' : src.n - (i + 1) = r := by omega
    rw [hr] at p2
    unfold goFor at p2
    cases hat : src.at_ h2 i with
    | none => rw [hat] at p2; exact p2.elim
    | some d =>
      rw [hat] at p2
      dsimp only at p2
      obtain ⟨g1, g2⟩ := w1 i d hlt hat
      refine .inr ⟨g1, _, fun σ' H' hn => ⟨src.n - (i + 1), by omega, hn⟩, fun xv H3 hy => ?_⟩
      obtain ⟨e3, rh3, rd⟩ := g2 xv H3 hy
      rw [asT_st ht] at p2
      cases hst : stT t d ds2 with
      | none => rw [hst] at p2; exact p2.elim
      | some ds' =>
        rw [hst] at p2
        simp only [okS, Res.atS, Res.bind] at p2
        refine ⟨ι2, h2, ds2, d, ds', rh3, rs2.ext e3, rd, hst, fun σ2 rs4 _ _ => ⟨ι2, h2, ds', rh3, rs4, ?_⟩⟩
        refine (PostS.seqS (bk := fun _ _ => False) (ct := fun _ _ => False) (PostS.later e3 p2)).imp (fun σ' H4 ⟨ι4, h4, ds4, e4, rh4, rs4, p4⟩ => ⟨rfl, hlt, ι4, h4, ds4, (e2.trans e3).trans e4, rh4, rs4, ?_⟩) fun _ _ z => z
        rw [hr']
        exact p4
  · have ei : i = src.n := by omega
    subst ei
    rw [Nat.sub_self] at p2
    unfold goFor at p2
    split at p2
    · rename_i hf
      exact .inl ⟨w2 hf, p2 σ ι2 Hc .refl rh2 rs2⟩
    · exact p2.elim
end
end Q
end
section
set_option autoImplicit false
set_option Elab.async false
set_option linter.all false
set_option maxRecDepth 4000
set_option maxHeartbeats 1000000
/-! Q: assignments. -/
namespace Q
open PySem L2 PySem.Spec PyProof.Rows

theorem atS_bind {α β : Type} (r : Res α) (g : α → Hh → Res β) (ds : Sl) : (r.bind g).atS ds = (r.atS ds).bind fun a h => (g a h).atS ds := by cases r <;> rfl
theorem sole_no {e t : Expr} {l : Nat} {env : Env} (h : isCompr e = false) : swapsWithSole [t] e l env = pure false := by cases e <;> first | rfl | (simp [isCompr] at h)
section
variable {T : Tb} {k : Nat} {X : Cx} {W : WX} {L : Lx} {pos ps : Pos} {a b c e : Expr} {x y z : E} {t : Tg} {ts : Tgs} {es vs : List Expr} {xs : Es}
theorem set_read {i : Nat} (D : Ends) (σ : L2.St) (H : Hp) (q : rSt T k X W (.set (.name i) x) D σ H) : rE T k X W x σ H fun v H1 => D.nx (σ.set i (some v)) H1 := by
  obtain ⟨ι, h, ds, rh, rs, p⟩ := q
  simp only [evS] at p
  refine ⟨ι, h, ds, rh, rs, (PostS.step p rs).mono ?_⟩
  rintro v H1 ⟨d, ι1, h1, q1, e1, rh1, rs1, rd, p1⟩
  simp only [asT, Res.atS, Res.bind] at p1
  exact p1 _ ι1 H1 .refl rh1 (rs1.put i rd)
theorem s_name (o : XOk T k X W L) {n : Str} {i : Nat} (hn : L.loc n = some i) (he : PE X e (rE T k X W x)) (hs : swapsWith e (some (.Name n ps)) pos.line X.env = pure false) : PS X (.Assign [.Name n ps] e pos) (rSt T k X W (.set (.name i) x)) := by
  obtain ⟨h1, h2, h3⟩ := o.loc hn
  exact ps_imp (ps_set o.nd h1 h2 he hs h3) fun D σ H q => set_read D σ H q
theorem putF_rep {K : PySem.W.Frag} {ι : List Addr} {H : Hp} {f : Str} {v : V} {d : D} (rv : Rv K ι H v d) : ∀ {vs : List (Str × V)} {fs : List (Str × D)}, All2 (Rf K ι H) vs fs → All2 (Rf K ι H) (L2.putF f v vs) (putF f d fs)
  | _, _, .nil => .cons ⟨rfl, rv⟩ .nil
  | (p1, p2) :: vs, (q1, q2) :: fs, .cons ⟨e, r⟩ t => by
    cases e
    unfold L2.putF putF
    by_cases h : p1 = f
    · rw [if_pos h, if_pos h]; exact .cons ⟨rfl, rv⟩ t
    · rw [if_neg h, if_neg h]; exact .cons ⟨rfl, r⟩ (putF_rep rv t)
theorem s_attr (o : XOk T k X W L) {f : Str} (he : PE X e (rE T k X W x)) (ha : PE X a (rE T k X W y)) (hc : isCompr e = false) : PS X (.Assign [.Attribute a f ps] e pos) (rSt T k X W (.set (.fld y f) x)) := by
  refine ps_imp (ps_fld ha he (swaps_no hc)) fun D σ H ⟨ι, h, ds, rh, rs, p⟩ => ?_
  simp only [evS] at p
  refine ⟨ι, h, ds, rh, rs, (PostS.step p rs).mono ?_⟩
  rintro v H1 ⟨d, ι1, h1, q1, e1, rh1, rs1, rd, p1⟩
  simp only [asT, atS_bind, bind_bind] at p1
  refine ⟨ι1, h1, ds, rh1, rs1, (PostS.step p1 rs1).mono ?_⟩
  rintro w H2 ⟨g, ι2, h2, q2, e2, rh2, rs2, rg, p2⟩
  cases hf : setFld T.P h2 g f d with
  | none => rw [hf] at p2; exact p2.elim
  | some h3 =>
    rw [hf] at p2
    simp only [Res.atS, Res.bind] at p2
    unfold setFld at hf
    split at hf
    · rename_i i
      split at hf
      · rename_i cc fs hcell
        split at hf
        · rename_i hok
          cases hf
          obtain ⟨a0, rfl, hi, C, dx, ws, hC, hH, rf⟩ := rh2.ref rg hcell
          have hC' : T.cA cc = some C := hC
          obtain ⟨kc, hk⟩ := o.tb.cz _ _ hC'
          have q := o.tb.ck _ _ _ hk hC'
          simp only [Bool.and_eq_true, decide_eq_true_eq] at hok
          have hfl : f ∈ kc.flds := by have := hok.1; simp only [okFld, hk] at this; simpa using this
          have nf : ∀ u x, H2 a0 ≠ some (.frz u x) := fun u x z => by rw [hH] at z; cases z
          have ext := ext_set (o := .ins C dx (L2.putF f v ws)) rh2 (List.mem_of_getElem? hi) nf
          refine ⟨a0, C, dx, ws, rfl, hH, q.cl, q.nf f hfl, by rw [rf.len]; omega, ?_⟩
          refine p2 σ ι2 _ ext (rh2.put hi nf ⟨C, dx, _, hC, upd_same, (putF_rep (rd.ext e2) rf).imp fun _ _ z => ⟨z.1, z.2.ext ext⟩⟩) (rs2.ext ext)
        · cases hf
      · cases hf
    · cases hf
theorem s_sub (o : XOk T k X W L) (he : PE X e (rE T k X W x)) (ha : PE X a (rE T k X W y)) (hb : PE X b (rE T k X W z)) (hc : isCompr e = false) (hs : isSlice b = false) : PS X (.Assign [.Subscript a b ps] e pos) (rSt T k X W (.set (.sub y z) x)) := by
  have un := o.un
  refine ps_imp (ps_asg he (pg_sub ha hb (set_ok (cA := T.cA) (by omega)) (fun v => by cases b <;> first | rfl | (simp [isSlice] at hs))) (sole_no hc) (by cases e <;> rfl)) fun D σ H ⟨ι, h, ds, rh, rs, p⟩ => ?_
  simp only [evS] at p
  refine ⟨ι, h, ds, rh, rs, (PostS.step p rs).mono ?_⟩
  rintro v H1 ⟨d, ι1, h1, q1, e1, rh1, rs1, rd, p1⟩
  simp only [asT, atS_bind, bind_bind] at p1
  refine ⟨ι1, h1, ds, rh1, rs1, (PostS.step p1 rs1).mono ?_⟩
  rintro w H2 ⟨g, ι2, h2, q2, e2, rh2, rs2, rg, p2⟩
  refine ⟨ι2, h2, ds, rh2, rs2, (PostS.step p2 rs2).mono ?_⟩
  rintro u H3 ⟨f, ι3, h3, q3, e3, rh3, rs3, rf, p3⟩
  cases hf : setD h3 g f d with
  | none => rw [hf] at p3; exact p3.elim
  | some h4 =>
    rw [hf] at p3
    simp only [Res.atS, Res.bind] at p3
    exact ⟨ι3, h3, g, f, d, h4, rh3, rg.ext e3, rf, (rd.ext e2).ext e3, hf, fun H' ex rh' => p3 σ ι3 H' ex rh' (rs3.ext ex)⟩
theorem st_read (ht : pur t = true) (D : Ends) (σ : L2.St) (H : Hp) (q : rSt T k X W (.set t x) D σ H) : rE T k X W x σ H fun v H1 => gR T X t v σ H1 D.nx := by
  obtain ⟨ι, h, ds, rh, rs, p⟩ := q
  simp only [evS] at p
  refine ⟨ι, h, ds, rh, rs, (PostS.step p rs).mono ?_⟩
  rintro v H1 ⟨d, ι1, h1, q1, e1, rh1, rs1, rd, p1⟩
  rw [asT_st ht] at p1
  cases hst : stT t d ds with
  | none => rw [hst] at p1; exact p1.elim
  | some ds' =>
    rw [hst] at p1
    simp only [okS, Res.atS, Res.bind] at p1
    exact ⟨ι1, h1, ds, d, ds', rh1, rs1, rd, hst, fun σ' rs' _ _ => p1 σ' ι1 H1 .refl rh1 rs'⟩
theorem stores_no {env : Env} {j : Nat} (h : isTupD e = false) : swappedStores [.Tuple es j ps] e env = pure none := by cases e <;> first | rfl | (simp [isTupD] at h)
theorem s_tup (o : XOk T k X W L) {j : Nat} (he : PE X e (rE T k X W x)) (hg : PG X (.Tuple es j ps) (gR T X (.tup ts))) (ht : purs ts = true) (hc : isCompr e = false) (hw : swappedStores [.Tuple es j ps] e X.env = pure none) : PS X (.Assign [.Tuple es j ps] e pos) (rSt T k X W (.set (.tup ts) x)) :=
  ps_imp (ps_asg he hg (sole_no hc) hw) fun D σ H q => st_read (t := .tup ts) (by simpa [pur] using ht) D σ H q
/-! ### stores in parallel -/
def nmF (env : Env) (line : Nat) : Expr → Option Str
  | .Name id pos => if env.kindOf id == some .local && pos.line == line then some id else none
  | _ => none
theorem nmF_names {env : Env} (hk : env.scope.names = L.sc.names) {line : Nat} : ∀ {es : List Expr} {ns : List Str}, parNames L line es = some ns → es.filterMap (nmF env line) = ns ∧ ns.length = es.length
  | [], ns, e => by simp only [parNames, Option.some.injEq] at e; subst e; exact ⟨rfl, rfl⟩
  | a :: r, ns, e => by
    cases a with
    | Name n p =>
      simp only [parNames] at e
      split at e
      · rename_i hc
        simp only [Option.map_eq_some_iff] at e
        obtain ⟨ns', e', rfl⟩ := e
        obtain ⟨i1, i2⟩ := nmF_names hk e'
        have hkd : env.kindOf n = some .local := by unfold Env.kindOf; rw [hk]; exact hc.1
        have one : nmF env line (.Name n p) = some n := by simp [nmF, hkd, hc.2]
        exact ⟨by rw [List.filterMap_cons, one]; simp only [i1], by simp [i2]⟩
      · cases e
    | _ => simp [parNames] at e
theorem par_some {env : Env} {ns : List Str} {j l : Nat} {pt pv : Pos} (hk : env.scope.names = L.sc.names) (hf : L.sc.kind = .function) (hfk : env.scope.kind = L.sc.kind) (hp : parNames L (((es.head?).map (·.pos.line)).getD 0) es = some ns) (hl : es.length = 2 ∨ es.length = 3) (hv : vs.length = es.length) (hd : ns.eraseDups.length = ns.length) (hff : foldFree vs = true) :
    swappedStores [.Tuple es j pt] (.Tuple vs l pv) env = pure (some ns) := by
  obtain ⟨n1, n2⟩ := nmF_names hk hp
  simp only [foldFree, Bool.and_eq_true, Bool.not_eq_true'] at hff
  obtain ⟨⟨f1, f2⟩, f3⟩ := hff
  have hb : env.blockKind = .function := by unfold Env.blockKind; rw [hfk, hf]; rfl
  have c1 : (!(es.length == 2 || es.length == 3) || vs.length != es.length || env.blockKind != .function) = false := by
    rw [hb, hv]
    rcases hl with h | h <;> rw [h] <;> decide
  have star : ∀ f : Expr → Bool, (∀ u, f u = isStar u) → vs.any f = false := fun f h => by rw [show f = isStar from funext h]; exact f1
  have nms : ∀ f : Expr → Option Str, (∀ u, f u = nmF env (((es.head?).map (·.pos.line)).getD 0) u) → es.filterMap f = ns := fun f h => by rw [show f = nmF env _ from funext h]; exact n1
  have c2 : (ns.length != es.length || ns.eraseDups.length != ns.length) = false := by simp [n2, hd]
  simp only [swappedStores]
  rw [c1, star _ (fun u => by cases u <;> rfl), nms _ (fun u => by cases u <;> rfl), c2, f2, f3]
  rfl
theorem par_none {env : Env} {j l : Nat} {pt pv : Pos} (hk : env.scope.names = L.sc.names) (h : nonPar L (((es.head?).map (·.pos.line)).getD 0) es = true) : swappedStores [.Tuple es j pt] (.Tuple vs l pv) env = pure none := by
  have nms : ∀ f : Expr → Option Str, (∀ u, f u = nmL L (((es.head?).map (·.pos.line)).getD 0) u) → (es.filterMap f).length != es.length := fun f q => by rw [show f = nmL L _ from funext q]; exact h
  have kd : ∀ id, env.kindOf id = L.kd id := fun id => by unfold Env.kindOf Lx.kd; rw [hk]
  simp only [swappedStores]
  split
  · rfl
  · split
    · rfl
    · rw [nms _ (fun u => by cases u <;> first | rfl | simp only [nmL, kd])]
      rfl
theorem tup_read {is : List Nat} (D : Ends) (σ : L2.St) (H : Hp) (ht : purs ts = true) (q : rSt T k X W (.set (.tup ts) (.tup xs)) D σ H) : rA T k X W xs σ H fun us H1 => gRs T X ts us σ H1 D.nx := by
  obtain ⟨ι, h, ds, rh, rs, p⟩ := q
  simp only [evS, evE, atS_bind, bind_bind] at p
  refine ⟨ι, h, ds, rh, rs, (PostS.step p rs).mono ?_⟩
  rintro us H1 ⟨gs, ι1, h1, q1, e1, rh1, rs1, rd, p1⟩
  split at p1
  · simp only [Res.atS, Res.bind, asT] at p1
    rw [asTs_st ht] at p1
    cases hst : stTs ts gs ds with
    | none => rw [hst] at p1; exact p1.elim
    | some ds' =>
      rw [hst] at p1
      simp only [okS] at p1
      exact ⟨ι1, h1, ds, gs, ds', rh1, rs1, rd, hst, fun σ' rs' _ _ => p1 σ' ι1 H1 .refl rh1 rs'⟩
  · exact p1.elim
end
end Q
end
section
set_option autoImplicit false
set_option Elab.async false
set_option linter.all false
set_option maxRecDepth 4000
set_option maxHeartbeats 2000000
/-! Q: the trees keep the readings of the written expressions. -/
namespace Q
open PySem L2 PySem.Spec PyProof.Rows

theorem opOf_c {op : Operator} {o : Op} (e : opOf op = some o) : op = opc o := by
  cases op <;> simp only [opOf, Option.some.injEq, reduceCtorEq] at e <;> subst e <;> rfl
theorem own_mem {N : List Str} : ∀ {names : List (Str × NameKind)} {x : Str} {kd : NameKind} {i : Nat}, (x, kd) ∈ names → (kd = .local ∨ kd = .cell) → ixOf x N = some i → i ∈ (ownOf N names).map (·.2)
  | (y, q) :: r, x, kd, i, h, hk, hi => by
    rcases List.mem_cons.mp h with e | h
    · cases e
      unfold ownOf
      rcases hk with rfl | rfl
      · simp only [hi]; simp
      · simp only [hi]; simp
    · have ih := own_mem h hk hi
      unfold ownOf
      split
      · split
        · simp only [List.map_cons, List.mem_cons]; exact .inr ih
        · exact ih
      · split
        · simp only [List.map_cons, List.mem_cons]; exact .inr ih
        · exact ih
      · exact ih
theorem blk_loc {L : Lx} {scope : Scope} {x : Str} {i : Nat} (h : (L.blk scope).loc x = some i) : i ∈ (ownOf L.N scope.names).map (·.2) := by
  unfold Lx.loc Lx.kd at h
  split at h
  · rename_i hk
    obtain ⟨k', h1, h2⟩ := lookup_relS (sc := L.sc) hk
    rcases h2 with h2 | ⟨_, h2⟩
    · subst h2
      exact own_mem (PySem.mem_of_lookup h1) (.inl rfl) h
    · cases h2
  · split at h
    · rename_i hf
      have hf' : scope.names.lookup x = some .cell := by simpa [Lx.blk] using hf
      exact own_mem (PySem.mem_of_lookup hf') (.inr rfl) h
    · cases h
  · cases h
/-- targets only store names -/
theorem compT_pur (G : Gt) : ∀ n : Nat, (∀ {L : Lx} {e : Expr} {t : Tg}, compT G n L e = some t → pur t = true ∧ ∀ i ∈ slT t, ∃ x, L.loc x = some i) ∧
    (∀ {L : Lx} {es : List Expr} {ts : Tgs}, compTs G n L es = some ts → purs ts = true ∧ tsLen ts = es.length ∧ ∀ i ∈ slTs ts, ∃ x, L.loc x = some i)
  | 0 => ⟨fun h => by simp [compT] at h, fun h => by simp [compTs] at h⟩
  | n + 1 => by
    obtain ⟨i1, i2⟩ := compT_pur G n
    refine ⟨fun {L e t} h => ?_, fun {L es ts} h => ?_⟩
    · unfold compT at h
      split at h
      · split at h
        · rename_i x _ _ i hi
          cases h
          exact ⟨rfl, fun j hj => ⟨x, by rw [List.mem_singleton.mp (show j ∈ [i] from hj)]; exact hi⟩⟩
        · cases h
      · split at h
        · rename_i ts hts
          split at h
          · cases h
          · cases h
            obtain ⟨a, b, c⟩ := i2 hts
            exact ⟨by simpa [pur] using a, fun j hj => c j (by simpa [slT] using hj)⟩
        · cases h
      · cases h
    · unfold compTs at h
      split at h
      · cases h; exact ⟨rfl, rfl, fun j hj => by simp [slTs] at hj⟩
      · split at h
        · rename_i t ts h1 h2
          cases h
          obtain ⟨a, b⟩ := i1 h1
          obtain ⟨c, d, f⟩ := i2 h2
          refine ⟨by simp [purs, a, c], by simp [tsLen, d], fun j hj => ?_⟩
          simp only [slTs, List.mem_append] at hj
          rcases hj with z | z
          · exact b j z
          · exact f j z
        · cases h
section
variable {T : Tb} {k : Nat} {X : Cx} {W : WX} {L : Lx}
theorem XOk.blk (o : XOk T k X W L) (scope : Scope) (s : Shared) (H : Hp) (C : Addr) (cl : List (Str × Addr)) (fp : List Addr) : XOk T k (X.blk s H scope (compEnvC scope cl C X.env) fp) WN (L.blk scope) := by
  refine ⟨o.tb, o.fns, o.hc, o.hg, o.hr, fun u s' ⟨_, _, _, _, _, _, _, _, _, _, _, _, _, _, _, _, w⟩ => w.elim, o.nd, o.N, ?_, fun x hx => hx⟩
  show relS scope X.env.scope = relS scope L.sc
  rw [o.sc]
/-- the parts of a list comprehension -/
structure LcOk (T : Tb) (k : Nat) (X : Cx) (W : WX) (elt tg iter : Expr) (ifs : List Expr) (scope : Scope) (own : List (Str × Nat)) (t : Tg) (it : It) (fs : Es) (x : E) : Prop where
  hi : PI X tg iter (wR T k X W it)
  ok : BlkOk X.N X.env.scope scope own
  hg : ∀ (s : Shared) (H : Hp) (C : Addr) (cl : List (Str × Addr)) (fp : List Addr), PG (X.blk s H scope (compEnvC scope cl C X.env) fp) tg (gR T X t)
  ht : ∀ (s : Shared) (H : Hp) (C : Addr) (cl : List (Str × Addr)) (fp : List Addr), PTs (X.blk s H scope (compEnvC scope cl C X.env) fp) ifs (rTs T k X WN fs)
  he : ∀ (s : Shared) (H : Hp) (C : Addr) (cl : List (Str × Addr)) (fp : List Addr), PE (X.blk s H scope (compEnvC scope cl C X.env) fp) elt (rE T k X WN x)
  hs : isSetD iter = false
  pu : pur t = true
  sl : ∀ i ∈ slT t, i ∈ own.map (·.2)
theorem fold_no {e : Expr} (h : isSetD e = false) {env : Env} (v : Value) : foldedSetIterable e env v = pure v := by cases e <;> first | rfl | (simp [isSetD] at h)
theorem LcOk.pe {elt tg iter : Expr} {ifs : List Expr} {scope : Scope} {own : List (Str × Nat)} {t : Tg} {it : It} {fs : Es} {x : E} {pos : Pos} (o : XOk T k X W L) (c : LcOk T k X W elt tg iter ifs scope own t it fs x) :
    PE X (.ListComp elt [⟨tg, iter, ifs, 0⟩] scope pos) (rE T k X W (.lc x t it fs (own.map (·.2)))) :=
  pe_imp (pe_lc o.hc o.nd c.hi c.ok c.hg c.ht c.he (fun v => fold_no c.hs v)) fun σ H Q q => lc_read c.pu c.sl σ H Q q
theorem LcOk.ps {elt tg iter : Expr} {ifs : List Expr} {scope : Scope} {own : List (Str × Nat)} {t : Tg} {it : It} {fs : Es} {x : E} {pos py sp : Pos} {y : Str} {i : Nat} (o : XOk T k X W L) (hl : L.loc y = some i) (hk : L.kd y = some .local) (c : LcOk T k X W elt tg iter ifs scope own t it fs x) :
    PS X (.Assign [.Name y py] (.ListComp elt [⟨tg, iter, ifs, 0⟩] scope pos) sp) (rSt T k X W (.set (.name i) (.lc x t it fs (own.map (·.2))))) := by
  have two : ∃ b : Bool, swapsWith (.ListComp elt [⟨tg, iter, ifs, 0⟩] scope pos) (some (.Name y py)) sp.line X.env = pure b := ⟨_, rfl⟩
  obtain ⟨b, hb⟩ := two
  cases b with
  | false => exact s_name o hl (c.pe o) hb
  | true =>
    obtain ⟨h1, h2, h3⟩ := o.loc hl
    have hlk : X.env.scope.names.lookup y = some .local := by rw [o.sc]; exact hk
    exact ps_imp (ps_setLc o.hc o.nd h1 hlk hb c.hi c.ok c.hg c.ht c.he (fun v => fold_no c.hs v)) fun D σ H q => lc_read c.pu c.sl σ H _ (set_read D σ H q)
/-- what holds of the trees of that fuel -/
structure IHE (T : Tb) (k : Nat) (n : Nat) : Prop where
  e : ∀ {X : Cx} {W : WX} {L : Lx} {e : Expr} {x : E}, XOk T k X W L → compE T.G n L e = some x → PE X e (rE T k X W x) ∧ PT X e (rB T k X W x)
  b : ∀ {X : Cx} {W : WX} {L : Lx} {op : BoolOp} {vs : List Expr} {x : E} (pos : Pos), XOk T k X W L → compB T.G n L op vs = some x → PE X (.BoolOp op vs pos) (rE T k X W x) ∧ PW X (.BoolOp op vs pos) (rB T k X W x)
  a : ∀ {X : Cx} {W : WX} {L : Lx} {es : List Expr} {xs : Es}, XOk T k X W L → compEs T.G n L es = some xs → PA X es (rA T k X W xs) ∧ (es = [] → xs = .nil) ∧ (es.any isStar = false → xs.cnt = some es.length)
  kw : ∀ {X : Cx} {W : WX} {L : Lx} {kws : List Keyword} {ks : List Str} {xs : Es}, XOk T k X W L → kwNames kws = some ks → compEs T.G n L (kwVals kws) = some xs → PK X kws (rA T k X W xs) ∧ xs.cnt = some ks.length
  d : ∀ {X : Cx} {W : WX} {L : Lx} {keys : List (Option Expr)} {vals kvs : List Expr} {xs : Es}, XOk T k X W L → zipKV keys vals = some kvs → compEs T.G n L kvs = some xs → PP2 T k X W keys vals xs
  d2 : ∀ {X : Cx} {W : WX} {L : Lx} {v : Expr} {r : List Expr} {xs : Es}, XOk T k X W L → compEs T.G n L (v :: r) = some xs → isStar v = false → ∃ y ys, xs = .cons y ys ∧ PE X v (rE T k X W y) ∧ ∀ keys vals, zipKV keys vals = some r → PP2 T k X W keys vals ys
  o : ∀ {X : Cx} {W : WX} {L : Lx} {e : Option Expr} {x : Oe}, XOk T k X W L → compO T.G n L e = some x → PO X e (rO T k X W x)
  t : ∀ {X : Cx} {W : WX} {L : Lx} {e : Expr} {t : Tg}, XOk T k X W L → compT T.G n L e = some t → PG X e (gR T X t)
  ts : ∀ {X : Cx} {W : WX} {L : Lx} {es : List Expr} {ts : Tgs}, XOk T k X W L → compTs T.G n L es = some ts → es.any isStar = false → PGs X es (gRs T X ts)
  fi : ∀ {X : Cx} {W : WX} {L : Lx} {es : List Expr} {xs : Es}, XOk T k X W L → compEs T.G n L es = some xs → es.length ≤ 1 → es.any isStar = false → PTs X es (rTs T k X W xs)
  i : ∀ {X : Cx} {W : WX} {L : Lx} {tg e : Expr} {s : It}, XOk T k X W L → compI T.G n L tg e = some s → PI X tg e (wR T k X W s)
  lc : ∀ {X : Cx} {W : WX} {L : Lx} {elt : Expr} {gens : List Comprehension} {scope : Scope} {pos : Pos} {x : E}, XOk T k X W L → compE T.G n L (.ListComp elt gens scope pos) = some x →
    ∃ tg iter ifs t it fs y, gens = [⟨tg, iter, ifs, 0⟩] ∧ x = .lc y t it fs ((ownOf L.N scope.names).map (·.2)) ∧ LcOk T k X W elt tg iter ifs scope (ownOf L.N scope.names) t it fs y
section
variable {n : Nat} (ih : IHE T k n)
include ih
theorem ih_lc {elt : Expr} {gens : List Comprehension} {scope : Scope} {pos : Pos} {x : E} (o : XOk T k X W L) (h : compE T.G (n + 1) L (.ListComp elt gens scope pos) = some x) :
    ∃ tg iter ifs t it fs y, gens = [⟨tg, iter, ifs, 0⟩] ∧ x = .lc y t it fs ((ownOf L.N scope.names).map (·.2)) ∧ LcOk T k X W elt tg iter ifs scope (ownOf L.N scope.names) t it fs y := by
  simp only [compE] at h
  split at h
  · rename_i tg iter ifs asy
    split at h
    · rename_i hc
      obtain ⟨h0, hb, hset⟩ := hc
      subst h0
      split at h
      · rename_i s t fs y q1 q2 q3 q4
        split at h
        · rename_i hif
          cases h
          refine ⟨tg, iter, ifs, t, s, fs, y, rfl, rfl, ih.i o q1, ?_, fun s H C cl fp => ih.t (o.blk scope s H C cl fp) q2, fun s H C cl fp => ih.fi (o.blk scope s H C cl fp) q3 hif.1 hif.2, fun s H C cl fp => (ih.e (o.blk scope s H C cl fp) q4).1, hset, ?_, ?_⟩
          · rw [o.N, o.sc]; exact blkOk_by hb
          · exact ((compT_pur T.G n).1 q2).1
          · intro i hi
            obtain ⟨z, hz⟩ := ((compT_pur T.G n).1 q2).2 i hi
            exact blk_loc hz
        · cases h
      · cases h
    · cases h
  · cases h
omit ih in
theorem minus1 {st : Expr} (h : isMinus1 st = true) : ∃ j p1 p2, st = .UnaryOp .USub (.Constant (.int 1) j p1) p2 := by
  unfold isMinus1 at h
  split at h
  · exact ⟨_, _, _, rfl⟩
  · cases h
theorem ih_callN {f : Str} {p0 pos : Pos} {args : List Expr} {kws : List Keyword} {x : E} (o : XOk T k X W L) (h : compE T.G (n + 1) L (.Call (.Name f p0) args kws pos) = some x) : PE X (.Call (.Name f p0) args kws pos) (rE T k X W x) := by
  simp only [compE] at h
  split at h
  · rename_i i hg
    split at h
    · rename_i ks xs ys h1 h2 h3
      split at h
      · cases h
      · rename_i hs
        simp only [Option.map_eq_some_iff] at h
        obtain ⟨perm, hp, rfl⟩ := h
        have hs' : args.any isStar = false := by simpa using hs
        obtain ⟨a1, a2, a3⟩ := ih.a o h2
        obtain ⟨k1, k2⟩ := ih.kw o h1 h3
        exact c_call o hg h1 hs' a1 k1 (a3 hs') k2 a2 hp
    · cases h
  · rename_i c hg
    split at h
    · rename_i ks xs ys kc h1 h2 h3 h4
      split at h
      · cases h
      · rename_i hs
        simp only [Option.map_eq_some_iff] at h
        obtain ⟨perm, hp, rfl⟩ := h
        have hs' : args.any isStar = false := by simpa using hs
        obtain ⟨a1, a2, a3⟩ := ih.a o h2
        obtain ⟨k1, k2⟩ := ih.kw o h1 h3
        exact c_mk o hg h4 h1 hs' a1 k1 (a3 hs') k2 a2 hp
    · cases h
  · cases h
  · split at h
    · rename_i hf
      obtain ⟨hf, hkw⟩ := hf
      have hk0 : kws = [] := by simpa using hkw
      subst hk0
      have gen : ∀ {x : E}, (match compEs T.G n L args with
          | some xs => if args.any isStar = true then none else (btOf f args.length).map fun b => E.blt b xs
          | none => none) = some x → PE X (.Call (.Name f p0) args [] pos) (rE T k X W x) := fun {x} h => by
        split at h
        · rename_i xs hx
          split at h
          · cases h
          · rename_i hs
            simp only [Option.map_eq_some_iff] at h
            obtain ⟨b, hb, rfl⟩ := h
            exact c_blt o hf hb (by simpa using hs) (ih.a o hx).1
        · cases h
      split at h
      · rename_i he
        subst he
        split at h
        · rename_i a t
          split at h
          · rename_i y ty h1 h2
            cases h
            cases t <;> try (simp [tyOf] at h2; done)
            by_cases hst : isStar a = true
            · cases a <;> first | (simp [isStar] at hst; done) | (cases n <;> simp [compE] at h1)
            · exact c_isi o hf (by simpa using hst) (ih.e o h1).1 h2
          · cases h
        · cases h
      · split at h
        · rename_i hlt
          split at h
          · rename_i g pg a pg2
            split at h
            · rename_i hr
              obtain ⟨hr, hgr⟩ := hr
              subst hgr
              split at h
              · rename_i y hy
                cases h
                by_cases hst : isStar a = true
                · cases a <;> first | (simp [isStar] at hst; done) | (cases n <;> simp [compE] at hy)
                · have hst' : isStar a = false := by simpa using hst
                  by_cases hl : f = "list"
                  · subst hl
                    rw [if_pos rfl]
                    exact c_lstR o hf hr hst' (ih.e o hy).1
                  · have ht : f = "tuple" := hlt.resolve_left hl
                    subst ht
                    rw [if_neg hl]
                    exact c_tupR o hf hr hst' (ih.e o hy).1
              · cases h
            · refine gen ?_
              simp only [List.any_cons, List.any_nil, isStar, Bool.or_false, Bool.false_eq_true, if_false]
              exact h
          · exact gen h
        · exact gen h
    · cases h
theorem ih_callA {ob : Expr} {m : Str} {apos pos : Pos} {args : List Expr} {kws : List Keyword} {x : E} (o : XOk T k X W L) (h : compE T.G (n + 1) L (.Call (.Attribute ob m apos) args kws pos) = some x) : PE X (.Call (.Attribute ob m apos) args kws pos) (rE T k X W x) := by
  simp only [compE] at h
  split at h
  · cases h
  · rename_i hc
    simp only [not_or, Bool.not_eq_true, Decidable.not_not] at hc
    obtain ⟨h0, hs, hz, hl⟩ := hc
    split at h
    · rename_i y xs h1 h2
      obtain ⟨a1, a2, a3⟩ := ih.a o h2
      split at h
      · rename_i p hp
        cases h
        exact c_meth o (ks := []) (ih.e o h1).1 h0 rfl hs a1 k_nil (a3 hs) rfl a2 hp hz hl
      · simp only [Option.map_eq_some_iff] at h
        obtain ⟨b, hb, rfl⟩ := h
        exact c_bm (ih.e o h1).1 h0 hs a1 a2 hb (by simpa using hz) hl
      · split at h
        · rename_i ks ys h3 h4
          simp only [Option.map_eq_some_iff] at h
          obtain ⟨p, hp, rfl⟩ := h
          obtain ⟨k1, k2⟩ := ih.kw o h3 h4
          exact c_meth o (ih.e o h1).1 h0 h3 hs a1 k1 (a3 hs) k2 a2 hp hz hl
        · cases h
    · cases h
theorem ih_e {e : Expr} {x : E} (o : XOk T k X W L) (h : compE T.G (n + 1) L e = some x) : PE X e (rE T k X W x) ∧ PT X e (rB T k X W x) := by
  have plain : ∀ {e : Expr} {x : E}, PE X e (rE T k X W x) → (∀ whole, isTrue e X.env whole = (do let v ← whole; standAt e.pos; holding [v] (truthy v))) → PE X e (rE T k X W x) ∧ PT X e (rB T k X W x) := fun p q => ⟨p, t_plain p q⟩
  cases e with
  | Constant c j p =>
    simp only [compE, Option.map_eq_some_iff] at h
    obtain ⟨d, hd, rfl⟩ := h
    exact plain (c_const hd) (fun _ => rfl)
  | Name y p =>
    simp only [compE] at h
    split at h
    · rename_i hn
      split at h
      · rename_i i hi
        cases h
        exact plain (c_var o hi hn) (fun _ => rfl)
      · split at h
        · rename_i d hd
          cases h
          exact plain (c_glob o hd) (fun _ => rfl)
        · cases h
    · cases h
  | BinOp a op b p =>
    simp only [compE] at h
    split at h
    · rename_i p1 y z h1 h2 h3
      cases h
      rw [opOf_c h1]
      exact plain (c_op _ (ih.e o h2).1 (ih.e o h3).1) (fun _ => rfl)
    · cases h
  | UnaryOp op a p =>
    cases op <;> simp only [compE, reduceCtorEq] at h
    · split at h
      · rename_i y hy
        cases h
        exact ⟨c_nt (ih.e o hy).1, t_nt (ih.e o hy).2⟩
      · cases h
    · split at h
      · rename_i y hy
        cases h
        exact plain (c_neg (ih.e o hy).1) (fun _ => rfl)
      · cases h
  | BoolOp op vs p =>
    simp only [compE] at h
    obtain ⟨a, b⟩ := ih.b p o h
    exact ⟨a, b.pt⟩
  | IfExp c a b p =>
    simp only [compE] at h
    split at h
    · rename_i y1 y2 y3 h1 h2 h3
      cases h
      exact ⟨c_ite (ih.e o h1).2 (ih.e o h2).1 (ih.e o h3).1, t_ite (ih.e o h1).2 (ih.e o h2).2 (ih.e o h3).2⟩
    · cases h
  | Compare a ops cs p =>
    match ops, cs, h with
    | [op], [b], h =>
      simp only [compE] at h
      split at h
      · rename_i y1 y2 h1 h2
        split at h
        · cases h
        · rename_i hs
          cases h
          have hs' : isSetD b = false := by simpa using hs
          have q1 := c_cmp (pos := p) o (cpOf op) (ih.e o h1).1 (ih.e o h2).1 hs'
          have q2 := t_cmp (pos := p) o (cpOf op) (ih.e o h1).1 (ih.e o h2).1 hs'
          rw [cpc_of] at q1 q2
          exact ⟨q1, q2⟩
      · cases h
    | [op, op2], [b, c], h =>
      simp only [compE] at h
      split at h
      · rename_i y1 y2 y3 h1 h2 h3
        split at h
        · cases h
        · rename_i hs
          cases h
          have hs' : isSetD c = false := by simp only [not_or, Bool.not_eq_true] at hs; exact hs.2
          have q1 := c_chain (pos := p) o (cpOf op) (cpOf op2) (ih.e o h1).1 (ih.e o h2).1 (ih.e o h3).1 hs'
          have q2 := t_chain (pos := p) o (cpOf op) (cpOf op2) (ih.e o h1).1 (ih.e o h2).1 (ih.e o h3).1 hs'
          rw [cpc_of, cpc_of] at q1 q2
          exact ⟨q1, q2⟩
      · cases h
    | [], _, h => simp [compE] at h
    | [_], [], h => simp [compE] at h
    | [_], _ :: _ :: _, h => simp [compE] at h
    | [_, _], [], h => simp [compE] at h
    | [_, _], [_], h => simp [compE] at h
    | [_, _], _ :: _ :: _ :: _, h => simp [compE] at h
    | _ :: _ :: _ :: _, _, h => simp [compE] at h
  | Tuple es j p =>
    simp only [compE] at h
    split at h
    · rename_i xs hx
      cases h
      exact plain (c_tup (ih.a o hx).1) (fun _ => rfl)
    · cases h
  | List es p =>
    simp only [compE] at h
    split at h
    · rename_i xs hx
      cases h
      exact plain (c_lst (ih.a o hx).1) (fun _ => rfl)
    · cases h
  | Dict keys vals p =>
    simp only [compE] at h
    split at h
    · rename_i kvs hk
      split at h
      · rename_i hl
        split at h
        · rename_i xs hx
          cases h
          exact plain (c_dct (ih.d o hk hx) hl) (fun _ => rfl)
        · cases h
      · cases h
    · cases h
  | Attribute a f p =>
    simp only [compE] at h
    split at h
    · rename_i y hy
      split at h
      · cases h
      · rename_i hc
        cases h
        exact plain (c_fld o (ih.e o hy).1 (by simpa using hc)) (fun _ => rfl)
    · cases h
  | Subscript a i p =>
    by_cases hsl : isSlice i = true
    · cases i <;> try (simp [isSlice] at hsl; done)
      rename_i lo hi st p2
      cases st with
      | none =>
        simp only [compE] at h
        split at h
        · rename_i y1 y2 y3 h1 h2 h3
          cases h
          exact plain (c_slc o (ih.e o h1).1 (ih.o o h2) (ih.o o h3)) (fun _ => rfl)
        · cases h
      | some st =>
        cases lo with
        | some _ => simp [compE, isSlice] at h
        | none =>
          cases hi with
          | some _ => simp [compE, isSlice] at h
          | none =>
            simp only [compE] at h
            split at h
            · rename_i y hy
              split at h
              · rename_i hm
                cases h
                obtain ⟨j, p3, p4, rfl⟩ := minus1 hm
                exact plain (c_rev (ih.e o hy).1) (fun _ => rfl)
              · cases h
            · cases h
    · have hsf : isSlice i = false := by simpa using hsl
      have h' : (match compE T.G n L a, compE T.G n L i with
        | some x, some y => some (E.sub x y)
        | _, _ => none) = some x := by
        cases i <;> simp only [compE, isSlice, Bool.false_eq_true, if_false, reduceCtorEq] at h hsf ⊢ <;> exact h
      split at h'
      · rename_i y1 y2 h1 h2
        cases h'
        exact plain (c_sub o (ih.e o h1).1 (ih.e o h2).1 hsf) (fun _ => rfl)
      · cases h'
  | Call f args kws p =>
    cases f with
    | Name f p0 => exact plain (ih_callN ih o h) (fun _ => rfl)
    | Attribute ob m apos => exact plain (ih_callA ih o h) (fun _ => rfl)
    | _ => simp [compE] at h
  | ListComp elt gens scope p =>
    obtain ⟨tg, iter, ifs, t, it, fs, y, rfl, rfl, c⟩ := ih_lc ih o h
    exact plain (c.pe o) (fun _ => rfl)
  | _ => simp [compE] at h
end
end
end Q
end
section
set_option autoImplicit false
set_option Elab.async false
set_option linter.all false
set_option maxRecDepth 4000
set_option maxHeartbeats 2000000
/-! Q: the induction over the fuel; statements; a def. -/
namespace Q
open PySem L2 PySem.Spec PyProof.Rows

section
variable {T : Tb} {k : Nat} {X : Cx} {W : WX} {L : Lx} {n : Nat} (ih : IHE T k n)
include ih
theorem ih_b {op : BoolOp} {vs : List Expr} {x : E} (pos : Pos) (o : XOk T k X W L) (h : compB T.G (n + 1) L op vs = some x) : PE X (.BoolOp op vs pos) (rE T k X W x) ∧ PW X (.BoolOp op vs pos) (rB T k X W x) := by
  match vs, h with
  | [], h => simp [compB] at h
  | [a], h =>
    simp only [compB] at h
    exact ⟨pe_one (ih.e o h).1, w_one (ih.e o h).2⟩
  | a :: b :: r, h =>
    simp only [compB] at h
    split at h
    · rename_i y1 y2 h1 h2
      cases h
      cases op with
      | And => exact ⟨c_an (ih.e o h1).1 (ih.b pos o h2).1, w_and (ih.e o h1).2 (ih.b pos o h2).2⟩
      | Or => exact ⟨c_orr (ih.e o h1).1 (ih.b pos o h2).1, w_or (ih.e o h1).2 (ih.b pos o h2).2⟩
    · cases h
theorem ih_a {es : List Expr} {xs : Es} (o : XOk T k X W L) (h : compEs T.G (n + 1) L es = some xs) : PA X es (rA T k X W xs) ∧ (es = [] → xs = .nil) ∧ (es.any isStar = false → xs.cnt = some es.length) := by
  unfold compEs at h
  split at h
  · cases h; exact ⟨a_nil, fun _ => rfl, fun _ => rfl⟩
  · split at h
    · rename_i y ys h1 h2
      cases h
      refine ⟨a_star (ih.e o h1).1 (ih.a o h2).1, (fun e => by cases e), fun e => by simp [isStar] at e⟩
    · cases h
  · rename_i e r hne
    split at h
    · rename_i y ys h1 h2
      cases h
      have hst : isStar e = false := by
        cases e <;> first | rfl | exact (hne _ _ rfl).elim
      refine ⟨a_cons hst (ih.e o h1).1 (ih.a o h2).1, (fun e => by cases e), fun e => ?_⟩
      simp only [List.any_cons, Bool.or_eq_false_iff] at e
      simp [Es.cnt, (ih.a o h2).2.2 e.2]
    · cases h
theorem ih_kw {kws : List Keyword} {ks : List Str} {xs : Es} (o : XOk T k X W L) (hk : kwNames kws = some ks) (h : compEs T.G (n + 1) L (kwVals kws) = some xs) : PK X kws (rA T k X W xs) ∧ xs.cnt = some ks.length := by
  match kws, hk, h with
  | [], hk, h =>
    cases hk
    simp only [kwVals, compEs, Option.some.injEq] at h
    subst h
    exact ⟨k_nil, rfl⟩
  | ⟨none, _, _⟩ :: _, hk, h => simp [kwNames] at hk
  | ⟨some m, v, p⟩ :: r, hk, h =>
    simp only [kwNames] at hk
    split at hk
    · cases hk
    · rename_i hst
      simp only [Option.map_eq_some_iff] at hk
      obtain ⟨ks', hk', rfl⟩ := hk
      have hst' : isStar v = false := by simpa using hst
      have h' : (match compE T.G n L v, compEs T.G n L (kwVals r) with
        | some x, some xs => some (Es.cons x xs)
        | _, _ => none) = some xs := by
        unfold kwVals compEs at h
        split at h
        · rename_i e; cases e
        · rename_i e; cases e; simp [isStar] at hst'
        · rename_i e; cases e; exact h
      split at h'
      · rename_i y ys h1 h2
        cases h'
        obtain ⟨a, b⟩ := ih.kw o hk' h2
        exact ⟨k_cons (ih.e o h1).1 a, by simp [Es.cnt, b]⟩
      · cases h'
theorem ih_o {e : Option Expr} {x : Oe} (o : XOk T k X W L) (h : compO T.G (n + 1) L e = some x) : PO X e (rO T k X W x) := by
  cases e with
  | none => simp only [compO, Option.some.injEq] at h; subst h; exact o_none
  | some e =>
    simp only [compO] at h
    split at h
    · rename_i y hy; cases h; exact o_some (ih.e o hy).1
    · cases h
theorem ih_t {e : Expr} {t : Tg} (o : XOk T k X W L) (h : compT T.G (n + 1) L e = some t) : PG X e (gR T X t) := by
  unfold compT at h
  split at h
  · split at h
    · rename_i hi; cases h; exact g_name o hi
    · cases h
  · split at h
    · rename_i ts hts
      split at h
      · cases h
      · rename_i hs
        cases h
        have hs' := by simpa using hs
        exact g_tup o (ih.ts o hts (by simpa using hs)) (by simpa using hs) ((compT_pur T.G n).2 hts).2.1
    · cases h
  · cases h
theorem ih_ts {es : List Expr} {ts : Tgs} (o : XOk T k X W L) (h : compTs T.G (n + 1) L es = some ts) (hs : es.any isStar = false) : PGs X es (gRs T X ts) := by
  unfold compTs at h
  split at h
  · cases h; exact g_nil
  · split at h
    · rename_i t ts h1 h2
      cases h
      simp only [List.any_cons, Bool.or_eq_false_iff] at hs
      exact g_cons hs.1 (ih.t o h1) (ih.ts o h2 hs.2)
    · cases h
theorem ih_fi {es : List Expr} {xs : Es} (o : XOk T k X W L) (h : compEs T.G (n + 1) L es = some xs) (hl : es.length ≤ 1) (hs : es.any isStar = false) : PTs X es (rTs T k X W xs) := by
  match es, hl, hs, h with
  | [], _, _, h => simp only [compEs, Option.some.injEq] at h; subst h; exact ts_nil
  | [c], _, hs, h =>
    have hst : isStar c = false := by simpa using hs
    unfold compEs at h
    split at h
    · rename_i e; cases e
    · rename_i e; cases e; simp [isStar] at hst
    · rename_i e0 r0 hne e
      cases e
      split at h
      · rename_i y ys h1 h2
        cases h
        have := (ih.a o h2).2.1 rfl
        subst this
        exact ts_one (ih.e o h1).2
      · cases h
  | _ :: _ :: _, hl, _, _ => simp at hl
theorem ih_i {tg e : Expr} {s : It} (o : XOk T k X W L) (h : compI T.G (n + 1) L tg e = some s) : PI X tg e (wR T k X W s) := by
  have gen : ∀ {e : Expr} {s : It}, (match compE T.G n L e with
      | some x => some (It.e x)
      | none => none) = some s → PI X tg e (wR T k X W s) := fun {e s} h => by
    split at h
    · rename_i y hy; cases h; exact i_e (ih.e o hy).1
    · cases h
  unfold compI at h
  split at h
  · split at h
    · rename_i hf
      obtain ⟨hf, hr⟩ := hf
      subst hr
      split at h
      · cases h
      · rename_i hs
        split at h
        · rename_i y hy
          cases h
          exact i_r1 o hf (by simpa using hs) (ih.e o hy).1
        · cases h
    · exact gen h
  · split at h
    · rename_i hf
      obtain ⟨hf, hr⟩ := hf
      subst hr
      split at h
      · cases h
      · rename_i hs
        simp only [not_or, Bool.not_eq_true] at hs
        split at h
        · rename_i y z hy hz
          cases h
          exact i_r2 o hf hs.1 hs.2 (ih.e o hy).1 (ih.e o hz).1
        · cases h
    · exact gen h
  · exact gen h
theorem ih_d2 {v : Expr} {r : List Expr} {xs : Es} (o : XOk T k X W L) (h : compEs T.G (n + 1) L (v :: r) = some xs) (hs : isStar v = false) : ∃ y ys, xs = .cons y ys ∧ PE X v (rE T k X W y) ∧ ∀ keys vals, zipKV keys vals = some r → PP2 T k X W keys vals ys := by
  unfold compEs at h
  split at h
  · rename_i e; cases e
  · rename_i e; cases e; simp [isStar] at hs
  · rename_i e0 r0 hne e
    cases e
    split at h
    · rename_i y ys h1 h2
      cases h
      exact ⟨y, ys, rfl, (ih.e o h1).1, fun keys vals hz => ih.d o hz h2⟩
    · cases h
theorem ih_d {keys : List (Option Expr)} {vals kvs : List Expr} {xs : Es} (o : XOk T k X W L) (hz : zipKV keys vals = some kvs) (h : compEs T.G (n + 1) L kvs = some xs) : PP2 T k X W keys vals xs := by
  unfold zipKV at hz
  split at hz
  · cases hz
    simp only [compEs, Option.some.injEq] at h
    subst h
    exact .nil
  · rename_i a ks b vs
    split at hz
    · cases hz
    · rename_i hs
      simp only [not_or, Bool.not_eq_true] at hs
      simp only [Option.map_eq_some_iff] at hz
      obtain ⟨r, hr, rfl⟩ := hz
      unfold compEs at h
      split at h
      · rename_i e; cases e
      · rename_i e; cases e; simp [isStar] at hs
      · rename_i e0 r0 hne e
        cases e
        split at h
        · rename_i y ys h1 h2
          cases h
          obtain ⟨y2, ys2, rfl, pv, pr⟩ := ih.d2 o h2 hs.2
          exact .cons (ih.e o h1).1 pv (pr ks vs hr)
        · cases h
  · cases hz
end
theorem ihe (T : Tb) (k : Nat) : ∀ n : Nat, IHE T k n
  | 0 => ⟨fun _ h => by simp [compE] at h, fun _ _ h => by simp [compB] at h, fun _ h => by simp [compEs] at h, fun _ _ h => by simp [compEs] at h, fun _ _ h => by simp [compEs] at h, fun _ h => by simp [compEs] at h, fun _ h => by simp [compO] at h,
      fun _ h => by simp [compT] at h, fun _ h => by simp [compTs] at h, fun _ h => by simp [compEs] at h, fun _ h => by simp [compI] at h, fun _ h => by simp [compE] at h⟩
  | n + 1 => have ih := ihe T k n
    ⟨fun o h => ih_e ih o h, fun p o h => ih_b ih p o h, fun o h => ih_a ih o h, fun o hk h => ih_kw ih o hk h, fun o hz h => ih_d ih o hz h, fun o h hs => ih_d2 ih o h hs, fun o h => ih_o ih o h,
      fun o h => ih_t ih o h, fun o h hs => ih_ts ih o h hs, fun o h hl hs => ih_fi ih o h hl hs, fun o h => ih_i ih o h, fun o h => ih_lc ih o h⟩

/-! ### statements -/
structure IHS (T : Tb) (k : Nat) (n : Nat) : Prop where
  s : ∀ {X : Cx} {W : WX} {L : Lx} {st : Stmt} {x : S}, XOk T k X W L → PassesOwn (model X.prog X.w) X.A X.env X.xe → compS T.G n L st = some x → PS X st (rSt T k X W x)
  ss : ∀ {X : Cx} {W : WX} {L : Lx} {sts : List Stmt} {x : Ss}, XOk T k X W L → PassesOwn (model X.prog X.w) X.A X.env X.xe → compSs T.G n L sts = some x → PSs X sts (rSs T k X W x)
section
variable {T : Tb} {k : Nat} {X : Cx} {W : WX} {L : Lx} {n : Nat}
theorem comp_tup {vs : List Expr} {j : Nat} {p : Pos} {x : E} (o : XOk T k X W L) (h : compE T.G n L (.Tuple vs j p) = some x) : ∃ xs, x = .tup xs ∧ PA X vs (rA T k X W xs) := by
  cases n with
  | zero => simp [compE] at h
  | succ n =>
    simp only [compE] at h
    split at h
    · rename_i xs hx; cases h; exact ⟨xs, rfl, ((ihe T k n).a o hx).1⟩
    · cases h
def namesT : List Nat → Tgs
  | [] => .nil
  | i :: r => .cons (.name i) (namesT r)
theorem compTs_names {G : Gt} {line : Nat} : ∀ {n : Nat} {ts : List Expr} {ns : List Str} {tgs : Tgs}, parNames L line ts = some ns → compTs G n L ts = some tgs → ∃ is, tgs = namesT is ∧ All2 (fun x i => L.loc x = some i ∧ L.kd x = some .local) ns is
  | 0, _, _, _, _, h => by simp [compTs] at h
  | n + 1, [], ns, tgs, hp, h => by
    simp only [parNames, Option.some.injEq] at hp
    simp only [compTs, Option.some.injEq] at h
    subst hp; subst h
    exact ⟨[], rfl, .nil⟩
  | n + 1, a :: r, ns, tgs, hp, h => by
    cases a <;> try (simp [parNames] at hp; done)
    rename_i y p
    simp only [parNames] at hp
    split at hp
    · rename_i hk
      simp only [Option.map_eq_some_iff] at hp
      obtain ⟨ns', hp', rfl⟩ := hp
      simp only [compTs] at h
      split at h
      · rename_i t ts h1 h2
        cases h
        obtain ⟨is, rfl, q⟩ := compTs_names hp' h2
        cases n with
        | zero => simp [compT] at h1
        | succ n =>
          simp only [compT] at h1
          split at h1
          · rename_i i hi
            cases h1
            exact ⟨i :: is, rfl, .cons ⟨hi, hk.1⟩ q⟩
          · cases h1
      · cases h
    · cases hp
theorem purs_names : ∀ is : List Nat, purs (namesT is) = true
  | [] => rfl
  | _ :: r => by simp [namesT, purs, pur, purs_names r]
theorem loc_ne (o : XOk T k X W L) {x y : Str} {i j : Nat} (hx : L.loc x = some i) (hy : L.loc y = some j) (hne : x ≠ y) : i ≠ j := fun e => by
  have h1 := (o.loc hx).1
  have h2 := (o.loc hy).1
  rw [e, h2] at h1
  exact hne (Option.some.inj h1).symm
theorem s_par2 (o : XOk T k X W L) {x y : Str} {i j : Nat} {a b : Expr} {xs : Es} {px py pt pv sp : Pos} {kt kv : Nat} (hx : L.loc x = some i) (hy : L.loc y = some j) (kx : L.kd x = some .local) (ky : L.kd y = some .local) (hne : x ≠ y) (ha : PA X [a, b] (rA T k X W xs))
    (hw : swappedStores [.Tuple [.Name x px, .Name y py] kt pt] (.Tuple [a, b] kv pv) X.env = pure (some [x, y])) : PS X (.Assign [.Tuple [.Name x px, .Name y py] kt pt] (.Tuple [a, b] kv pv) sp) (rSt T k X W (.set (.tup (namesT [i, j])) (.tup xs))) := by
  have lx : X.env.scope.names.lookup x = some .local := by rw [o.sc]; exact kx
  have ly : X.env.scope.names.lookup y = some .local := by rw [o.sc]; exact ky
  refine ps_imp (ps_par o.hc o.nd (o.loc hx).1 (o.loc hy).1 (loc_ne o hx hy hne) lx ly ha hw) fun D σ H q => ?_
  obtain ⟨ι, h, ds, rh, rs, p⟩ := tup_read (is := []) D σ H (purs_names _) q
  refine ⟨ι, h, ds, rh, rs, p.mono fun us H1 hg => ?_⟩
  obtain ⟨ι1, h1, ds1, gs, ds', rh1, rs1, rv, st, q⟩ := hg
  simp only [namesT] at st
  match gs, st, rv with
  | [d, e], st, .cons r1 (.cons r2 .nil) =>
    simp only [stTs, stT, Option.some.injEq] at st
    subst st
    refine ⟨_, _, rfl, q _ ((rs1.put i r1).put j r2) (by simp) fun l hl => ?_⟩
    simp only [namesT, slTs, slT, List.mem_append, List.mem_singleton, not_or] at hl
    rw [List.getElem?_set_ne (Ne.symm hl.2.1), List.getElem?_set_ne (Ne.symm hl.1)]
  | [], st, _ => simp [stTs, stT] at st
  | [_], st, _ => simp [stTs, stT] at st
  | _ :: _ :: _ :: _, st, _ => simp [stTs, stT] at st
theorem s_par3 (o : XOk T k X W L) {x y z : Str} {i j l : Nat} {a b c : Expr} {xs : Es} {px py pz pt pv sp : Pos} {kt kv : Nat} (hx : L.loc x = some i) (hy : L.loc y = some j) (hz : L.loc z = some l) (kx : L.kd x = some .local) (ky : L.kd y = some .local) (kz : L.kd z = some .local)
    (h1 : x ≠ y) (h2 : x ≠ z) (h3 : y ≠ z) (ha : PA X [a, b, c] (rA T k X W xs)) (hw : swappedStores [.Tuple [.Name x px, .Name y py, .Name z pz] kt pt] (.Tuple [a, b, c] kv pv) X.env = pure (some [x, y, z])) :
    PS X (.Assign [.Tuple [.Name x px, .Name y py, .Name z pz] kt pt] (.Tuple [a, b, c] kv pv) sp) (rSt T k X W (.set (.tup (namesT [i, j, l])) (.tup xs))) := by
  have lx : X.env.scope.names.lookup x = some .local := by rw [o.sc]; exact kx
  have ly : X.env.scope.names.lookup y = some .local := by rw [o.sc]; exact ky
  have lz : X.env.scope.names.lookup z = some .local := by rw [o.sc]; exact kz
  refine ps_imp (ps_par3 o.hc o.nd (o.loc hx).1 (o.loc hy).1 (o.loc hz).1 (loc_ne o hx hy h1) (loc_ne o hx hz h2) (loc_ne o hy hz h3) lx ly lz ha hw) fun D σ H q => ?_
  obtain ⟨ι, h, ds, rh, rs, p⟩ := tup_read (is := []) D σ H (purs_names _) q
  refine ⟨ι, h, ds, rh, rs, p.mono fun us H1 hg => ?_⟩
  obtain ⟨ι1, g1, ds1, gs, ds', rh1, rs1, rv, st, q⟩ := hg
  simp only [namesT] at st
  match gs, st, rv with
  | [d, e, f], st, .cons r1 (.cons r2 (.cons r3 .nil)) =>
    simp only [stTs, stT, Option.some.injEq] at st
    subst st
    refine ⟨_, _, _, rfl, q _ (((rs1.put i r1).put j r2).put l r3) (by simp) fun m hm => ?_⟩
    simp only [namesT, slTs, slT, List.mem_append, List.mem_singleton, not_or] at hm
    rw [List.getElem?_set_ne (Ne.symm hm.2.2.1), List.getElem?_set_ne (Ne.symm hm.2.1), List.getElem?_set_ne (Ne.symm hm.1)]
  | [], st, _ => simp [stTs, stT] at st
  | [_], st, _ => simp [stTs, stT] at st
  | [_, _], st, _ => simp [stTs, stT] at st
  | _ :: _ :: _ :: _ :: _, st, _ => simp [stTs, stT] at st
theorem names_of {line : Nat} : ∀ {ts : List Expr} {ns : List Str}, parNames L line ts = some ns → ∃ ps : List Pos, ps.length = ns.length ∧ ts = (ns.zip ps).map fun q => Expr.Name q.1 q.2
  | [], ns, e => by simp only [parNames, Option.some.injEq] at e; subst e; exact ⟨[], rfl, rfl⟩
  | a :: r, ns, e => by
    cases a <;> try (simp [parNames] at e; done)
    rename_i y p
    simp only [parNames] at e
    split at e
    · simp only [Option.map_eq_some_iff] at e
      obtain ⟨ns', e', rfl⟩ := e
      obtain ⟨ps, h1, h2⟩ := names_of e'
      exact ⟨p :: ps, by simp [h1], by simp [h2]⟩
    · cases e
theorem ih_s (ih : IHS T k n) {st : Stmt} {x : S} (o : XOk T k X W L) (po : PassesOwn (model X.prog X.w) X.A X.env X.xe) (h : compS T.G (n + 1) L st = some x) : PS X st (rSt T k X W x) := by
  have ie := ihe T k n
  cases st with
  | Expr e p =>
    simp only [compS] at h
    split at h
    · cases h
    · rename_i hc
      split at h
      · rename_i y hy; cases h; exact s_expr (ie.e o hy).1 (by simpa using hc)
      · cases h
  | Pass p => simp only [compS, Option.some.injEq] at h; subst h; exact s_pass
  | Return e p =>
    cases e with
    | none => simp only [compS, Option.some.injEq] at h; subst h; exact s_retN
    | some e =>
      simp only [compS] at h
      split at h
      · rename_i y hy; cases h; exact s_ret (ie.e o hy).1
      · cases h
  | If c a b p =>
    simp only [compS] at h
    split at h
    · rename_i y q r h1 h2 h3; cases h; exact s_iff (ie.e o h1).2 (ih.ss o po h2) (ih.ss o po h3)
    · cases h
  | While c b els p =>
    cases els with
    | cons _ _ => simp [compS] at h
    | nil =>
      simp only [compS] at h
      split at h
      · rename_i y q h1 h2; cases h; exact s_while po (ie.e o h1).2 (ih.ss o po h2)
      · cases h
  | For tg iter b els p =>
    cases els with
    | cons _ _ => simp [compS] at h
    | nil =>
      simp only [compS] at h
      split at h
      · rename_i s t q h1 h2 h3
        split at h
        · cases h
        · rename_i hs
          cases h
          exact s_for o po (ie.i o h1) (ie.t o h2) ((compT_pur T.G n).1 h2).1 (ih.ss o po h3) (by simpa using hs)
      · cases h
  | Raise e c p =>
    cases e with
    | none => simp [compS] at h
    | some e =>
      cases c with
      | some _ => simp [compS] at h
      | none => simp only [compS, Option.some.injEq] at h; subst h; exact s_raise
  | Assign tgs e sp =>
    match tgs, h with
    | [], h => simp [compS] at h
    | _ :: _ :: _, h => simp [compS] at h
    | [t], h =>
      cases t with
      | Name y py =>
        simp only [compS] at h
        split at h
        · rename_i i z h1 h2
          by_cases hlc : ∃ elt gens scope pos, e = .ListComp elt gens scope pos
          · obtain ⟨elt, gens, scope, pos, rfl⟩ := hlc
            simp only [Option.some.injEq] at h
            subst h
            obtain ⟨tg, iter, ifs, t, it, fs, w, rfl, rfl, c⟩ := ie.lc o h2
            by_cases hk : L.kd y = some .local
            · exact c.ps o h1 hk
            · refine s_name o h1 (c.pe o) ?_
              have hkd : (X.env.kindOf y == some NameKind.local) = false := by
                have e : X.env.kindOf y = L.kd y := by unfold Env.kindOf Lx.kd; rw [o.sc]
                rw [e]
                cases hb : (L.kd y == some NameKind.local) with
                | false => rfl
                | true => exact absurd (eq_of_beq hb) hk
              show pure (X.env.blockKind == .function && X.env.kindOf y == some .local && py.line == pos.line && !(scope.names.any fun (n, k) => n == y && (k == .local || k == .cell))) = pure false
              rw [hkd]
              simp
          · have hc : isCompr e = false := by
              cases hcc : isCompr e with
              | false => rfl
              | true =>
                cases e <;> first | (simp [isCompr] at hcc; done) | exact absurd ⟨_, _, _, _, rfl⟩ hlc | (simp only [hcc, if_true, reduceCtorEq] at h)
            have h' : some (S.set (.name i) z) = some x := by
              cases e <;> simp only [hc, Bool.false_eq_true, if_false] at h <;> first | exact h | (simp [isCompr] at hc)
            cases h'
            exact s_name o h1 (ie.e o h2).1 (swaps_no hc)
        · cases h
      | Attribute a f p =>
        simp only [compS] at h
        split at h
        · cases h
        · rename_i hc
          split at h
          · rename_i y z h1 h2; cases h; exact s_attr o (ie.e o h1).1 (ie.e o h2).1 (by simpa using hc)
          · cases h
      | Subscript a i p =>
        simp only [compS] at h
        split at h
        · cases h
        · rename_i hc
          simp only [not_or, Bool.not_eq_true] at hc
          split at h
          · rename_i y z w h1 h2 h3; cases h; exact s_sub o (ie.e o h1).1 (ie.e o h2).1 (ie.e o h3).1 hc.1 hc.2
          · cases h
      | Tuple ts j p =>
        simp only [compS] at h
        split at h
        · cases h
        · rename_i hc
          have hc' : isCompr e = false := by simpa using hc
          split at h
          · rename_i z tg h1 h2
            by_cases htd : ∃ vs l pv, e = .Tuple vs l pv
            · obtain ⟨vs, l, pv, rfl⟩ := htd
              simp only at h
              split at h
              · rename_i ns hp
                split at h
                · rename_i hcnd
                  obtain ⟨hl, hv, hff, hed, hnd, hkf⟩ := hcnd
                  cases h
                  obtain ⟨xs, rfl, pa⟩ := comp_tup o h1
                  have hw := par_some (env := X.env) (j := j) (l := l) (pt := p) (pv := pv) (by rw [o.sc]) hkf (by rw [o.sc]) hp hl hv hed hff
                  have htg : ∃ tgs, tg = .tup tgs ∧ ∃ m, compTs T.G m L ts = some tgs := by
                    cases n with
                    | zero => simp [compT] at h2
                    | succ n =>
                      simp only [compT] at h2
                      split at h2
                      · rename_i tgs hts
                        split at h2
                        · cases h2
                        · cases h2; exact ⟨tgs, rfl, n, hts⟩
                      · cases h2
                  obtain ⟨tgs, rfl, m, hts⟩ := htg
                  obtain ⟨is, rfl, al⟩ := compTs_names hp hts
                  obtain ⟨ps, hpl, rfl⟩ := names_of hp
                  have hlen : ns.length = 2 ∨ ns.length = 3 := by simpa [List.length_zip, hpl] using hl
                  have hvl : vs.length = ns.length := by simpa [List.length_zip, hpl] using hv
                  match ns, ps, is, vs, al, hpl, hvl, hlen, hnd with
                  | [x1, x2], [p1, p2], _, [a, b], .cons q1 (.cons q2 .nil), _, _, _, hnd =>
                    simp only [List.nodup_cons, List.mem_singleton] at hnd
                    exact s_par2 o q1.1 q2.1 q1.2 q2.2 hnd.1 pa hw
                  | [x1, x2, x3], [p1, p2, p3], _, [a, b, c], .cons q1 (.cons q2 (.cons q3 .nil)), _, _, _, hnd =>
                    simp only [List.nodup_cons, List.mem_cons, List.mem_singleton, not_or] at hnd
                    exact s_par3 o q1.1 q2.1 q3.1 q1.2 q2.2 q3.2 hnd.1.1 (by simpa using hnd.1.2) (by simpa using hnd.2.1) pa hw
                · cases h
              · split at h
                · rename_i hnp
                  cases h
                  have htg : ∃ tgs, tg = .tup tgs := by
                    cases n with
                    | zero => simp [compT] at h2
                    | succ n =>
                      simp only [compT] at h2
                      split at h2
                      · split at h2
                        · cases h2
                        · cases h2; exact ⟨_, rfl⟩
                      · cases h2
                  obtain ⟨tgs, rfl⟩ := htg
                  exact s_tup o (ie.e o h1).1 (ie.t o h2) (by have := ((compT_pur T.G n).1 h2).1; simpa [pur] using this) hc' (par_none (by rw [o.sc]) hnp)
                · cases h
            · have h1t : isTupD e = false := by cases e <;> first | rfl | exact absurd ⟨_, _, _, rfl⟩ htd
              have h' : some (S.set tg z) = some x := by
                cases e <;> simp only [isListD, isTupD, Bool.false_eq_true, if_false, if_true, reduceCtorEq] at h h1t <;> exact h
              cases h'
              have htg : ∃ tgs, tg = .tup tgs := by
                cases n with
                | zero => simp [compT] at h2
                | succ n =>
                  simp only [compT] at h2
                  split at h2
                  · split at h2
                    · cases h2
                    · cases h2; exact ⟨_, rfl⟩
                  · cases h2
              obtain ⟨tgs, rfl⟩ := htg
              exact s_tup o (ie.e o h1).1 (ie.t o h2) (by have := ((compT_pur T.G n).1 h2).1; simpa [pur] using this) hc' (stores_no h1t)
          · cases h
      | _ => simp [compS] at h
  | _ => simp [compS] at h
theorem ih_ss (ih : IHS T k n) {sts : List Stmt} {x : Ss} (o : XOk T k X W L) (po : PassesOwn (model X.prog X.w) X.A X.env X.xe) (h : compSs T.G (n + 1) L sts = some x) : PSs X sts (rSs T k X W x) := by
  cases sts with
  | nil => simp only [compSs, Option.some.injEq] at h; subst h; exact s_nil
  | cons s r =>
    simp only [compSs] at h
    split at h
    · rename_i y ys h1 h2; cases h; exact s_cons (ih.s o po h1) (ih.ss o po h2)
    · cases h
end
theorem ihs (T : Tb) (k : Nat) : ∀ n : Nat, IHS T k n
  | 0 => ⟨fun _ _ h => by simp [compS] at h, fun _ _ h => by simp [compSs] at h⟩
  | n + 1 => have ih := ihs T k n
    ⟨fun o po h => ih_s ih o po h, fun o po h => ih_ss ih o po h⟩
end Q
end
section
set_option autoImplicit false
set_option Elab.async false
set_option linter.all false
set_option maxRecDepth 4000
set_option maxHeartbeats 2000000
/-! Q: the defs keep their promises; what is told of the written part. -/
namespace Q
open PySem L2 PySem.Spec PyProof.Rows

/-! ### a def's body -/
section
variable {T : Tb} {P : Program} {w : World} {K : W.Frag} {mg : Str → Option Value} {base : Heap} {k : Nat}
theorem start_rs {ι : List Addr} {H : Hp} : ∀ {vs : List V} {ds : List D} {N : List Str} {n : Nat}, All2 (Rv K ι H) vs ds → n = N.length → Rs K ι H (L2.start N vs) (ds.map some ++ List.replicate (n - ds.length) none) := by
  intro vs ds N n r e
  have hl := r.len
  unfold L2.start
  refine ⟨by simp [hl, e], fun i d q => ?_⟩
  by_cases hi : i < ds.length
  · rw [List.getElem?_append_left (by simpa using hi)] at q
    rw [List.getElem?_map] at q
    cases hd : ds[i]? with
    | none => rw [hd] at q; cases q
    | some d' =>
      rw [hd] at q
      cases q
      obtain ⟨v, hv, rv⟩ := r.getR hd
      exact ⟨v, by rw [List.getElem?_append_left (by simp [hl]; exact hi), List.getElem?_map, hv]; rfl, rv⟩
  · rw [List.getElem?_append_right (by simpa using hi), List.getElem?_replicate] at q
    split at q <;> cases q
/-- what is known of the i-th def -/
structure FnK (T : Tb) (K : W.Frag) (i : Nat) (f : Fn) : Prop where
  ex : ∃ (nm qn : Str) (pa : Arguments) (bd : List Stmt) (sc : Scope) (N : List Str) (n : Nat), FunD K nm qn pa bd sc [] [] (T.fA i) (T.fd i) ∧ FnScope N (T.ps i) sc ∧ compSs T.G n ⟨N, sc, fun _ => true⟩ bd = some f.body ∧ f.nps = (T.ps i).length ∧ f.nsl = N.length
theorem fn_step (F : Fns T P w K mg base k) (tb0 : T.Ok K mg base) {i : Nat} {f : Fn} (hf : T.P.fns[i]? = some f) (q : FnK T K i f) :
    FOk P w K mg base (2 * (k + 1)) (T.fA i) (T.fd i) (T.ps i) (spQ T P w K (T.ps i).length (fnAt T.P (k + 1) i)) := by
  obtain ⟨nm, qn, pa, bd, sc, N, n, D, S, hc, h1, h2⟩ := q.ex
  obtain ⟨oc, od, dV, kV, doc, pm, an, cdv, ct, osl, e, lk, hcd, _, _⟩ := D.ex
  rw [e] at lk ⊢
  refine fok_of (k := 2 * k + 1) lk hcd S (fun vs H Q E h => h.1) fun B fs st H vs Q E hr hg hsp => ?_
  obtain ⟨hl, ι, h, ds, rh, rv, p⟩ := hsp
  have o : XOk T k (cxOf (L2.CX P w) P w K mg base N qn sc (T.fA i) cdv B fs st H E) (fun c d _ H' => E c d H') ⟨N, sc, fun _ => true⟩ := by
    refine ⟨tb0, F, rfl, hg, hr, takes_of rfl rfl rfl rfl, S.nd, rfl, rfl, fun _ _ => rfl⟩
  have po : PassesOwn (model P w) (cxOf (L2.CX P w) P w K mg base N qn sc (T.fA i) cdv B fs st H E).A (cxOf (L2.CX P w) P w K mg base N qn sc (T.fA i) cdv B fs st H E).env (cxOf (L2.CX P w) P w K mg base N qn sc (T.fA i) cdv B fs st H E).xe :=
    passes_of (X := cxOf (L2.CX P w) P w K mg base N qn sc (T.fA i) cdv B fs st H E) rfl
  refine ⟨_, (ihs T k n).ss o po hc, ι, h, ds.map some ++ List.replicate (f.nsl - ds.length) none, rh, start_rs rv h2, ?_⟩
  unfold fnAt at p
  rw [hf] at p
  simp only [runFn] at p
  split at p
  · cases hr2 : evSs T.P (fnAt T.P k) f.body (ds.map some ++ List.replicate (f.nsl - ds.length) none) h with
    | bad => rw [hr2] at p; exact p.elim
    | exc c fl σ' h' => rw [hr2] at p; exact fun cv dd σ2 ι2 H2 e2 rh2 _ rx => p cv dd ι2 H2 e2 rh2 rx
    | ok q h' =>
      obtain ⟨fl, σ'⟩ := q
      rw [hr2] at p
      cases fl with
      | nx => exact fun σ2 ι2 H2 e2 rh2 _ => p .non ι2 H2 e2 rh2 .non
      | rt d => exact fun v ι2 H2 e2 rh2 rv2 => p v ι2 H2 e2 rh2 rv2
  · exact p.elim
theorem fns_all (tb0 : T.Ok K mg base) (hk : ∀ i f, T.P.fns[i]? = some f → FnK T K i f) : ∀ k : Nat, Fns T P w K mg base k
  | 0 => fun i f hf => ⟨fun vs H Q E h => h.1, fun B fs st H ar us vs Q E hr hg e0 hb r h => by
    obtain ⟨_, _, _, _, _, _, p⟩ := h
    exact p.elim⟩
  | k + 1 => fun i f hf => fn_step (fns_all tb0 hk k) tb0 hf (hk i f hf)
end
end Q
end
section
set_option autoImplicit false
set_option Elab.async false
set_option linter.all false
set_option maxRecDepth 4000
set_option maxHeartbeats 2000000
/-! Q: the law's end, from the run of the law's def. -/
namespace Q
open PySem L2 PySem.Spec PyProof.Rows

/-- the heap that is told: the script alone -/
def scrH (a : Addr) (o : Obj) (ns : List Int) : Hp := fun b => if b = a then some (.frz o (.lst (ns.map V.int))) else none
theorem ints_all {K : W.Frag} {ι : List Addr} {H : Hp} : ∀ ns : List Int, All2 (Rv K ι H) (ns.map V.int) (ns.map D.int)
  | [] => .nil
  | n :: r => .cons (.int n) (ints_all r)
theorem scr_rh {G : Gm} {a : Addr} {o : Obj} {ns : List Int} : Rh G [a] (scrH a o ns) [.ro (ns.map D.int)] := by
  refine ⟨rfl, by simp, fun i b c h1 h2 => ?_⟩
  cases i with
  | zero =>
    simp only [List.getElem?_cons_zero, Option.some.injEq] at h1 h2
    subst h1; subst h2
    exact ⟨o, ns.map V.int, if_pos rfl, ints_all ns⟩
  | succ i => simp at h1
/-- the promise of the law's def, from its run -/
theorem scr_sp {T : Tb} {P : Program} {w : World} {K : W.Frag} {a : Addr} {o : Obj} {ns : List Int} {r : List D → Hh → Res D} (h : ∃ h', r [.ref 0] [.ro (ns.map D.int)] = .ok (.bl true) h') :
    spQ T P w K 1 r [.ref a] (scrH a o ns) (fun v _ => v = .bl true) fun _ _ _ => False := by
  obtain ⟨h', e⟩ := h
  refine ⟨rfl, [a], [.ro (ns.map D.int)], [.ref 0], scr_rh, .cons (.ref rfl) .nil, ?_⟩
  rw [e]
  intro v ι' H' _ _ rv
  cases rv
  rfl
section
variable {P : Program} {w : World} {K : W.Frag} {mg mb : Str → Option Value} {k : Nat} {fa a : Addr} {fd : FuncData} {x : Str} {sp : Sp} {st : Shared} {vs : List Value} {ns : List Int}
/-- the law is called: nothing is tracked but the script, which is no object of the written part -/
theorem end_call (inK : K.In st.heap) (gl : st.heap.Ns mainGlobals mg) (bl : st.heap.Ns builtinsNs mb) (boot : ∀ y : Str, y ≠ "__name__" → mb y = bootBuiltins y) (lim : st.heap.NoLimit) (gens : st.gens = #[]) (out : K.lookup a = none)
    (scr : st.heap.get? a = some { cls := .type "list", data := .seq vs.toArray }) (ivs : IntsAre vs ns) (short : ns.length ≤ sizeLine) (room : Room k callerA)
    (F : ∀ base : Heap, K.In base → base.Ns mainGlobals mg → FOk P w K mg base k fa fd [x] sp) (bind : ∀ (s : Shared) (u : Value), BindsTo s fd ⟨[u], []⟩ [(x, u)])
    (due : sp [.ref a] (scrH a { cls := .type "list", data := .seq vs.toArray } ns) (fun v _ => v = .bl true) fun _ _ _ => False) :
    codeAny (model P w) callerA (.call (.ref fa) ⟨[.ref a], []⟩) (fun r s' => r = .ok (.ret (.bool true)) ∧ OldK st.heap s'.heap ∧ s'.os = st.os ∧ AllBare s'.gens) st := by
  have only : ∀ b, b ≠ a → scrH a { cls := .type "list", data := .seq vs.toArray } ns b = none := fun b h => if_neg h
  have here : scrH a { cls := .type "list", data := .seq vs.toArray } ns a = some (.frz { cls := .type "list", data := .seq vs.toArray } (.lst (ns.map V.int))) := if_pos rfl
  have okH : HOk P w (scrH a { cls := .type "list", data := .seq vs.toArray } ns) st.heap := fun b u e => by
    by_cases hb : b = a
    · rw [hb, here] at e
      cases e
      rw [hb]
      exact ⟨scr, by rw [List.length_map]; exact short, vs, _, vals_ints ivs, scr⟩
    · rw [only b hb] at e; cases e
  generalize hH : scrH a { cls := .type "list", data := .seq vs.toArray } ns = H at only here okH due
  have dicts : ∀ {b : Addr} {m : Str → Option Value}, st.heap.Ns b m → (hidT st.heap H).Ns b m := fun {b m} ⟨ob, es, ep, e1, e2, e3⟩ => by
    refine ⟨ob, es, ep, hidT_get e1 (only b fun z => ?_), e2, e3⟩
    rw [z, scr] at e1
    cases e1
    cases e2
  have kb : K.In (hidT st.heap H) := fun b ob e => hidT_get (inK b ob e) (only b fun z => by rw [z, out] at e; cases e)
  obtain ⟨mc, c1, c2⟩ := lim
  have env0 : Env0 P w K mg (hidT st.heap H) callerA [] st H :=
    ⟨rfl, ⟨kb, dicts gl, ⟨mb, dicts bl, boot⟩, ⟨mc, dicts c1, c2⟩⟩, fun b ob e => of_hidT e, by rw [hidT_size]; exact Nat.le_refl _, trivial, (fun b hb => by cases hb), okH, .of_eq gens⟩
  have go := (F _ kb (dicts gl)).run callerA [] st H ⟨[.ref a], []⟩ [.ref a] [.ref a] _ _ room rfl env0 (bind st (.ref a)) (.cons rfl .nil) due
  refine codeAny_mono go fun r s' q => ?_
  cases r with
  | error e =>
    obtain ⟨_, _, _, _, _, _, _, _, _, _, _, _, z⟩ := q
    exact z.elim
  | ok fl =>
    cases fl with
    | ret u =>
      obtain ⟨v, H', e1, e2, un, ok', rv, ev⟩ := q
      have ev : v = .bl true := ev
      subst ev
      cases rv
      refine ⟨rfl, OldK.of_keep fun b ob hb => ?_, e1, e2⟩
      by_cases hba : b = a
      · subst hba
        have h1 := un.frzs b _ _ here
        obtain ⟨h2, _⟩ := ok' b _ h1
        rw [scr] at hb
        cases hb
        exact h2
      · exact un.keep b ob hb (only b hba) (fun z => by cases z) (fun z => by cases z)
    | _ => exact q.elim
end
/-- the end over a head whose Hook tells Y -/
theorem end_walk {l : W.OpenLaw} {n k : Nat} {q : Program} {loose : List Str} {XP : (Str → Option Value) → Heap → Prop} {Y : World → Heap → Prop} {d : DefRec} {x : Str} (most : l.most = some n) (small : n ≤ sizeLine) (dfl : d.params.defaults = []) (room : Room k callerA)
    (F : ∀ (w : World) (mg : Str → Option Value) (fa : Addr) (h : Heap), Y w h → h.Ns mainGlobals mg → mg d.name = some (.ref fa) →
      ∃ (K : W.Frag) (fd : FuncData) (sp : Sp), K.In h ∧ (∀ a o, K.lookup a = some o → o.cls ≠ .type "list") ∧ (∀ (s : Shared) (u : Value), BindsTo s fd ⟨[u], []⟩ [(x, u)]) ∧
        (∀ (a : Addr) (o : Obj) (ns : List Int), ns.length ≤ n → sp [.ref a] (scrH a o ns) (fun v _ => v = .bl true) fun _ _ _ => False) ∧
        ∀ base : Heap, K.In base → base.Ns mainGlobals mg → FOk l.prog w K mg base k fa fd [x] sp) :
    W.WalkO q loose XP Y l.row.toRowW d [] (fun f vs => PySem.call f vs) := by
  refine Att.attach_call most dfl fun w s0 st mg mb fa ob pm cd doc a vs ns G hY _ _ _ hmg scr ivs len gens => ?_
  obtain ⟨K, fd, sp, inK, nol, bind, due, FO⟩ := F w mg fa _ hY G.T.g hmg
  have out : K.lookup a = none := by
    cases e : K.lookup a with
    | none => rfl
    | some u =>
      have h1 := inK a u e
      rw [scr] at h1
      cases h1
      exact absurd rfl (nol a _ e)
  exact end_call inK G.T.g G.T.b G.T.builtins G.T.nolimit gens out scr ivs (Nat.le_trans len small) room FO bind (due a _ ns len)
end Q
end
section
set_option autoImplicit false
set_option Elab.async false
set_option linter.all false
set_option maxRecDepth 4000
set_option maxHeartbeats 2000000
/-! Q: a law's tables; what its head tells; from these the facts. -/
namespace Q
open PySem L2 PySem.Spec PyProof.Rows

structure LawT where
  defs : List He.DefD
  nms : List (List Str)
  cls : List (Str × Cl)
  gl : List (Str × Gv)
  fr : List Str
  sg : List Sg
  fuel : Nat
def pars (d : He.DefD) : List Str := d.params.args.map (·.arg)
def LawT.G (t : LawT) : Gt := ⟨t.cls.map (·.2), t.gl, t.fr, t.sg⟩
def cfuel : Nat := 120
def LawT.body (t : LawT) (q : He.DefD × List Str) : Option Ss := compSs t.G cfuel ⟨q.2, q.1.scope, fun _ => true⟩ q.1.body
def LawT.fnOf (t : LawT) (q : He.DefD × List Str) : Fn := ⟨(pars q.1).length, q.2.length, (t.body q).getD .nil⟩
def LawT.fns (t : LawT) : List Fn := (t.defs.zip t.nms).map t.fnOf
def LawT.P (t : LawT) : Pg := ⟨t.fns, t.cls.map (·.2), t.fuel⟩
/-! ### what is seen of the text alone -/
def scopeB (N P : List Str) (sc : Scope) : Bool :=
  (match sc.kind with | .function => true | _ => false) && !sc.isCoroutine && !sc.isGenerator && decide N.Nodup && decide (N.take P.length = P) &&
  (P.all fun x => decide (sc.names.lookup x = some .local) || decide (sc.names.lookup x = some .cell)) && (sc.names.all fun y => !decide (y.2 = .free))
theorem scopeB_ok {N P : List Str} {sc : Scope} (h : scopeB N P sc = true) : FnScope N P sc := by
  simp only [scopeB, Bool.and_eq_true, Bool.or_eq_true, Bool.not_eq_true', List.all_eq_true, decide_eq_true_eq, decide_eq_false_iff_not] at h
  obtain ⟨⟨⟨⟨⟨⟨h1, h2⟩, h3⟩, h4⟩, h5⟩, h6⟩, h7⟩ := h
  refine ⟨?_, h2, h3, h4, h5, h6, h7⟩
  split at h1
  · assumption
  · cases h1
def LawT.at_ (t : LawT) (i : Nat) : Option (Str × Option Str) := (t.defs[i]?).map (·.at_)
def defB (t : LawT) (q : He.DefD × List Str) : Bool := (t.body q).isSome && scopeB q.2 (pars q.1) q.1.scope && q.1.dfl.isEmpty && q.1.kwd.isEmpty
def glB (t : LawT) (g : Str × Gv) : Bool := match g.2 with
  | .fn i => decide (t.at_ i = some (g.1, none))
  | .cl c => decide ((t.cls[c]?).map (·.1) = some g.1)
  | .val _ => true
def clsB (t : LawT) (q : Str × Cl) : Bool := (q.2.meths.all fun m => decide (t.at_ m.2 = some (q.1, some m.1))) && decide (t.at_ q.2.init = some (q.1, some ("__init__" : Str))) &&
  (match q.2.meths.lookup ("__eq__" : Str) with
    | some f => decide (sgOf t.G f 2 [] = some [0, 1])
    | none => true) && (match q.2.meths.lookup ("__len__" : Str) with
    | some f => decide (sgOf t.G f 1 [] = some [0])
    | none => true)
def LawT.ok (t : LawT) : Bool := decide (t.nms.length = t.defs.length) && (t.defs.zip t.nms).all (defB t) && t.gl.all (glB t) && t.cls.all (clsB t) && t.sg.all fun g => decide (g.f < t.defs.length)
/-- how a shape binds -/
def SgB (t : LawT) (g : Sg) : Prop := ∀ d, t.defs[g.f]? = some d → ∀ (kV doc pm : Value) (an : Option Addr) (cdv ct : Value) (us ws : List Value), us.length = g.n → ws.length = g.ks.length →
  ∃ es, permG g.perm (us ++ ws) = some es ∧ es.length = (pars d).length ∧ bindArgs (W.fnOf d.name d.qual d.params d.body d.scope .none kV doc pm an cdv ct) ⟨us, g.ks.zip ws⟩ = pure ((pars d).zip es)
def AllP {α : Type} (p : α → Prop) : List α → Prop
  | [] => True
  | a :: r => p a ∧ AllP p r
theorem AllP.mem {α : Type} {p : α → Prop} : ∀ {l : List α} {a : α}, AllP p l → a ∈ l → p a
  | b :: r, a, h, m => by
    rcases List.mem_cons.mp m with e | m
    · rw [e]; exact h.1
    · exact AllP.mem h.2 m
/-! ### what is looked at behind the head -/
def ne2 : Option (Option Value) := some (some (.builtin "object.__ne__"))
def clB (t : LawT) (K : W.Frag) (q : Str × Cl) (c : Nat) : Bool :=
  (He.Fa.cls q.1).ok K && (q.2.flds.all fun f => (He.Fa.noat q.1 f).ok K) && (q.2.meths.all fun m => (He.Fa.meth q.1 m.1).ok K) && (He.Fa.mkr q.1).ok K &&
  He.eqO (W.findIn K (.ref (He.ga K q.1)) "__ne__") ne2 && decide (W.mroIn K (He.ga K q.1) (.type "object") = some true) &&
  He.eqO (W.findIn K (.ref (He.ga K q.1)) "__class__") (some (some (.builtin "object.__class__"))) && He.eqO (W.specialIn K (.builtin "object.__class__") "__get__") (some (some (.builtin "getset_descriptor.__get__"))) &&
  decide (W.takesIn K (.builtin "object.__class__") = some true) &&
  (tyNames.all fun n => decide (W.kitOne K (.ref (He.ga K q.1)) (.type n) = some false) && decide (W.kitOne K (.type n) (.ref (He.ga K q.1)) = some false) && W.notFirst K (He.ga K q.1) (.type n)) &&
  (t.cls.zipIdx.all fun r => decide (W.kitOne K (.ref (He.ga K r.1.1)) (.ref (He.ga K q.1)) = some (decide (r.2 = c))) && W.notFirst K (He.ga K q.1) (.ref (He.ga K r.1.1)))
def valB (K : W.Frag) (x : Str) : D → Bool
  | .int i => (He.Fa.int x i).ok K
  | .str z => (He.Fa.str x z).ok K
  | _ => false
def lookB (t : LawT) (K : W.Frag) : Bool := (K.lookup sysModules).isSome && (K.all fun q => !decide (q.2.cls = .type "list")) && (t.fr.all fun x => (He.Fa.free x).ok K) &&
  (t.gl.all fun g => match g.2 with
    | .val d => valB K g.1 d
    | _ => (He.Fa.glo g.1).ok K) && (t.cls.zipIdx.all fun r => clB t K r.1 r.2)
/-! ### the hook -/
def frQ (g : Addr → Option Obj) (n : Nat) : W.Frag := (He.frG g (sysModules :: He.asD g n)).filter fun q => !decide (q.2.cls = .type "list")
theorem frQ_in {h : Heap} {n : Nat} : (frQ h.get? n).In h := fun a o e => He.frG_mem (List.mem_filter.mp (He.lookup_mem e)).1
abbrev AlQ : Type := Bool × List He.FnW
def obsQ (t : LawT) (K : W.Frag) : AlQ := (lookB t K && t.defs.all fun d => d.ok K, t.defs.map fun d => He.fnW K d.at_)
def valQ (t : LawT) : AlQ := (true, t.defs.map He.DefD.val)
def hookQ (n : Nat) (t : LawT) : W.Hook where
  α := AlQ
  obs := fun s => obsQ t (frQ s.heap.get? n)
  val := fun _ => valQ t
  says := fun _ h => ∃ K : W.Frag, K.In h ∧ obsQ t K = valQ t
  of := fun _ _ e => ⟨_, frQ_in, e⟩
  keeps := fun _ _ _ ⟨K, hK, c⟩ k => ⟨K, W.Frag.In.keeps hK k, c⟩
/-! ### the facts -/
section
variable {t : LawT} {K : W.Frag}
def LawT.T (t : LawT) (K : W.Frag) (F : Nat → FuncData) : Tb := ⟨t.G, t.fns, t.fuel, fun c => (t.cls[c]?).map fun q => He.ga K q.1, fun i => match t.defs[i]? with
  | some d => He.fAd K d.at_
  | none => 0, F, fun i => match t.defs[i]? with
  | some d => pars d
  | none => []⟩
theorem says_defs (ok : t.ok = true) (c : obsQ t K = valQ t) : ∀ (i : Nat) (d : He.DefD), t.defs[i]? = some d → ∃ fd, FunD K d.name d.qual d.params d.body d.scope [] [] (He.fAd K d.at_) fd := by
  intro i d hd
  have c1 : (lookB t K && t.defs.all fun d => d.ok K) = true := congrArg (fun z : AlQ => z.1) c
  have c2 : t.defs.map (fun d => He.fnW K d.at_) = t.defs.map He.DefD.val := congrArg (fun z : AlQ => z.2) c
  have e2 : (t.defs.map fun d => He.fnW K d.at_)[i]? = (t.defs.map He.DefD.val)[i]? := by rw [c2]
  rw [List.getElem?_map, List.getElem?_map, hd] at e2
  have dk := List.all_eq_true.mp (Bool.and_eq_true_iff.mp c1).2 d (List.mem_of_getElem? hd)
  obtain ⟨fd, q⟩ := He.DefD.funD (Option.some.inj e2) dk
  have plain : d.dfl = [] ∧ d.kwd = [] := by
    simp only [LawT.ok, Bool.and_eq_true, decide_eq_true_eq] at ok
    have hl : i < t.nms.length := by rw [ok.1.1.1.1]; exact (List.getElem?_eq_some_iff.mp hd).1
    have hz : (t.defs.zip t.nms)[i]? = some (d, t.nms[i]) := by rw [List.getElem?_zip_eq_some]; exact ⟨hd, by simp [hl]⟩
    have q := List.all_eq_true.mp ok.1.1.1.2 _ (List.mem_of_getElem? hz)
    simp only [defB, Bool.and_eq_true] at q
    exact ⟨List.isEmpty_iff.mp q.1.2, List.isEmpty_iff.mp q.2⟩
  have e3 : d.dvs K = [] := by simp [He.DefD.dvs, plain.1]
  have e4 : d.kws K = [] := by simp [He.DefD.kws, plain.2]
  rw [e3, e4] at q
  exact ⟨fd, q⟩
theorem pick (h : ∀ (i : Nat) (d : He.DefD), t.defs[i]? = some d → ∃ fd, FunD K d.name d.qual d.params d.body d.scope [] [] (He.fAd K d.at_) fd) (fd0 : FuncData) : ∃ F : Nat → FuncData, ∀ (i : Nat) (d : He.DefD), t.defs[i]? = some d → FunD K d.name d.qual d.params d.body d.scope [] [] (He.fAd K d.at_) (F i) := by
  have : ∀ i : Nat, ∃ fd, ∀ d : He.DefD, t.defs[i]? = some d → FunD K d.name d.qual d.params d.body d.scope [] [] (He.fAd K d.at_) fd := fun i => by
    cases e : t.defs[i]? with
    | none => exact ⟨fd0, fun d z => by cases z⟩
    | some d =>
      obtain ⟨fd, q⟩ := h i d e
      exact ⟨fd, fun d' z => by cases z; exact q⟩
  exact ⟨fun i => (this i).choose, fun i => (this i).choose_spec⟩
theorem tb_ok {F : Nat → FuncData} {mg : Str → Option Value} {base : Heap} (ok : t.ok = true) (lk : lookB t K = true) (hF : ∀ (i : Nat) (d : He.DefD), t.defs[i]? = some d → FunD K d.name d.qual d.params d.body d.scope [] [] (He.fAd K d.at_) (F i))
    (sg : AllP (SgB t) t.sg) (inK : K.In base) (gl : base.Ns mainGlobals mg) : (t.T K F).Ok K mg base := by
  simp only [LawT.ok, Bool.and_eq_true, decide_eq_true_eq, List.all_eq_true] at ok
  obtain ⟨⟨⟨⟨o1, o2⟩, o3⟩, o4⟩, o5⟩ := ok
  simp only [lookB, Bool.and_eq_true, List.all_eq_true] at lk
  obtain ⟨⟨⟨⟨l1, l2⟩, l3⟩, l4⟩, l5⟩ := lk
  have atd : ∀ {i : Nat} {p : Str × Option Str}, t.at_ i = some p → ∃ d, t.defs[i]? = some d ∧ d.at_ = p := fun {i p} e => by
    simp only [LawT.at_, Option.map_eq_some_iff] at e
    exact e
  have fA : ∀ {i : Nat} {p : Str × Option Str}, t.at_ i = some p → (t.T K F).fA i = He.fAd K p ∧ W.keepIn K (.ref (He.fAd K p)) = true := fun {i p} e => by
    obtain ⟨d, hd, rfl⟩ := atd e
    exact ⟨by show (match t.defs[i]? with | some d => He.fAd K d.at_ | none => 0) = _; rw [hd], (hF i d hd).kp⟩
  have clx : ∀ {c : Nat} {C : Addr}, (t.T K F).cA c = some C → ∃ q, t.cls[c]? = some q ∧ C = He.ga K q.1 := fun {c C} e => by
    have e' : (t.cls[c]?).map (fun q => He.ga K q.1) = some C := e
    simp only [Option.map_eq_some_iff] at e'
    obtain ⟨q, h1, h2⟩ := e'
    exact ⟨q, h1, h2.symm⟩
  have idx : ∀ {c : Nat} {q : Str × Cl}, t.cls[c]? = some q → (q, c) ∈ t.cls.zipIdx := fun {c q} e => by
    rw [List.mem_zipIdx_iff_getElem?]
    exact e
  refine ⟨?_, ?_, ?_, ?_, ?_, ?_, ?_, ?_, ?_, ?_⟩
  · obtain ⟨ob, e⟩ := Option.isSome_iff_exists.mp l1
    exact ⟨ob, inK _ _ e⟩
  · exact fun x hx => He.free_ok inK gl (l3 x hx)
  · intro x i e
    have m := mem_lk e
    have g := o3 _ m
    have h4 := l4 _ m
    simp only [glB, decide_eq_true_eq] at g
    obtain ⟨e1, e2⟩ := fA g
    rw [e1]
    exact ⟨He.glo_ok inK gl h4, e2⟩
  · intro x c e
    have m := mem_lk e
    have g := o3 _ m
    simp only [glB, decide_eq_true_eq, Option.map_eq_some_iff] at g
    obtain ⟨q, h1, h2⟩ := g
    refine ⟨He.ga K q.1, ?_, ?_⟩
    · show (t.cls[c]?).map (fun q => He.ga K q.1) = _
      rw [h1]; rfl
    · rw [h2]; exact He.glo_ok inK gl (l4 _ m)
  · intro x d e
    have h4 := l4 _ (mem_lk e)
    cases d with
    | int i =>
      obtain ⟨tk, h⟩ := He.int_ok inK gl (x := x) (i := i) h4
      exact ⟨_, .int i, h, ⟨tk, rfl⟩, fun _ _ => .int i⟩
    | str z =>
      obtain ⟨tk, h⟩ := He.str_ok inK gl (x := x) (z := z) h4
      exact ⟨_, .str z, h, ⟨tk, rfl⟩, fun _ _ => .str z⟩
    | _ => cases h4
  · intro c k C hk hC
    obtain ⟨q, hq, rfl⟩ := clx hC
    have hk' : (t.cls.map (·.2))[c]? = some k := hk
    rw [List.getElem?_map, hq] at hk'
    cases hk'
    have b := l5 _ (idx hq)
    simp only [clB, Bool.and_eq_true, List.all_eq_true, decide_eq_true_eq] at b
    obtain ⟨⟨⟨⟨⟨⟨⟨⟨⟨⟨b1, b2⟩, b3⟩, b4⟩, b5⟩, b6⟩, b7⟩, b8⟩, b9⟩, b10⟩, b11⟩ := b
    have st := o4 _ (List.mem_of_getElem? hq)
    simp only [clsB, Bool.and_eq_true, List.all_eq_true, decide_eq_true_eq] at st
    obtain ⟨⟨⟨s1, s2⟩, _⟩, _⟩ := st
    refine ⟨He.cls_ok b1, fun f hf => He.noat_ok (b2 f hf), fun m i hm => ?_, ?_, He.eqO_ok b5, b6, He.eqO_ok b7, He.eqO_ok b8, b9, fun n hn => ?_, fun c' C' hC' => ?_⟩
    · have mm := mem_lk hm
      rw [(fA (s1 _ mm)).1]
      exact He.meth_ok (b3 _ mm)
    · rw [(fA s2).1]
      exact He.mkr_ok b4
    · have := b10 n hn
      exact ⟨this.1.1, this.1.2, this.2⟩
    · obtain ⟨q', hq', rfl⟩ := clx hC'
      exact b11 _ (idx hq')
  · intro c C hC
    obtain ⟨q, hq, _⟩ := clx hC
    exact ⟨q.2, by show (t.cls.map (·.2))[c]? = _; rw [List.getElem?_map, hq]; rfl⟩
  · intro g hg s us ws h1 h2
    have hlt := o5 g hg
    have hd : t.defs[g.f]? = some t.defs[g.f] := by simp [hlt]
    obtain ⟨oc, od, dV, kV, doc, pm, an, cdv, ct, osl, e1, _, _, dfl, _⟩ := (hF g.f _ hd).ex
    have hV : dV = .none := by
      rcases dfl with ⟨_, z⟩ | ⟨z, _⟩
      · exact z
      · exact absurd rfl z
    subst hV
    obtain ⟨es, q1, q2, q3⟩ := (sg.mem hg) _ hd kV doc pm an cdv ct us ws h1 h2
    have eps : (t.T K F).ps g.f = pars t.defs[g.f] := by show (match t.defs[g.f]? with | some d => pars d | none => []) = _; rw [hd]
    refine ⟨es, q1, by rw [eps]; exact q2, .of_eq ?_⟩
    show bindArgs (F g.f) _ = _
    rw [e1, eps]
    exact q3
  · intro k hk f hf
    obtain ⟨q, hq, rfl⟩ := List.mem_map.mp (show k ∈ t.cls.map (·.2) from hk)
    have st := o4 q hq
    simp only [clsB, Bool.and_eq_true] at st
    have := st.1.2
    rw [hf] at this
    exact of_decide_eq_true this
  · intro k hk f hf
    obtain ⟨q, hq, rfl⟩ := List.mem_map.mp (show k ∈ t.cls.map (·.2) from hk)
    have st := o4 q hq
    simp only [clsB, Bool.and_eq_true] at st
    have := st.2
    rw [hf] at this
    exact of_decide_eq_true this
theorem fnk_ok {F : Nat → FuncData} (ok : t.ok = true) (hF : ∀ (i : Nat) (d : He.DefD), t.defs[i]? = some d → FunD K d.name d.qual d.params d.body d.scope [] [] (He.fAd K d.at_) (F i)) : ∀ i f, (t.T K F).P.fns[i]? = some f → FnK (t.T K F) K i f := by
  intro i f hf
  simp only [LawT.ok, Bool.and_eq_true, decide_eq_true_eq, List.all_eq_true] at ok
  obtain ⟨⟨⟨⟨o1, o2⟩, _⟩, _⟩, _⟩ := ok
  have hf' : ((t.defs.zip t.nms).map t.fnOf)[i]? = some f := hf
  rw [List.getElem?_map] at hf'
  cases hz : (t.defs.zip t.nms)[i]? with
  | none => rw [hz] at hf'; cases hf'
  | some q =>
    rw [hz] at hf'
    cases hf'
    obtain ⟨d, N⟩ := q
    have b := o2 _ (List.mem_of_getElem? hz)
    simp only [defB, Bool.and_eq_true] at b
    obtain ⟨⟨⟨b1, b2⟩, _⟩, _⟩ := b
    have hd : t.defs[i]? = some d := (List.getElem?_zip_eq_some.mp hz).1
    have eps : (t.T K F).ps i = pars d := by show (match t.defs[i]? with | some d => pars d | none => []) = _; rw [hd]
    have eA : (t.T K F).fA i = He.fAd K d.at_ := by show (match t.defs[i]? with | some d => He.fAd K d.at_ | none => 0) = _; rw [hd]
    obtain ⟨bd, hbd⟩ := Option.isSome_iff_exists.mp b1
    refine ⟨d.name, d.qual, d.params, d.body, d.scope, N, cfuel, by rw [eA]; exact hF i d hd, by rw [eps]; exact scopeB_ok b2, ?_, by rw [eps]; rfl, rfl⟩
    have e5 : (t.fnOf (d, N)).body = bd := by show (t.body (d, N)).getD .nil = bd; rw [hbd]; rfl
    rw [e5]
    exact hbd
end
end Q
end
section
set_option autoImplicit false
set_option Elab.async false
set_option linter.all false
set_option maxRecDepth 4000
set_option maxHeartbeats 2000000
/-! Q: a law holds where the run of its def says so. -/
namespace Q
open PySem L2 PySem.Spec PyProof.Rows

theorem law_walk {t : LawT} {l : W.OpenLaw} {n k li m : Nat} {q : Program} {loose : List Str} {XP : (Str → Option Value) → Heap → Prop} {d : DefRec} {x : Str} {dL : He.DefD} (most : l.most = some n) (small : n ≤ sizeLine) (dfl : d.params.defaults = []) (room : Room (2 * k) callerA)
    (ok : t.ok = true) (sg : AllP (SgB t) t.sg) (hdL : t.defs[li]? = some dL) (hx : pars dL = [x]) (hgl : t.gl.lookup d.name = some (.fn li)) (hsg : ⟨li, 1, [], [0]⟩ ∈ t.sg)
    (run : ∀ ns : List Int, ns.length ≤ n → ∃ h', fnAt t.P k li [.ref 0] [.ro (ns.map D.int)] = .ok (.bl true) h') :
    W.WalkO q loose XP (hookQ m t).says l.row.toRowW d [] (fun f vs => PySem.call f vs) := by
  refine end_walk (x := x) most small dfl room fun w mg fa h Y gl hmg => ?_
  obtain ⟨K, inK, c⟩ := Y
  have lk : lookB t K = true := (Bool.and_eq_true_iff.mp (show (lookB t K && t.defs.all fun d => d.ok K) = true from congrArg (fun z : AlQ => z.1) c)).1
  obtain ⟨fd0, _⟩ := says_defs ok c li dL hdL
  obtain ⟨F, hF⟩ := pick (says_defs ok c) fd0
  have tb := tb_ok ok lk hF sg inK gl
  have e1 := (tb.fn d.name li hgl).1
  rw [hmg] at e1
  cases e1
  have eps : (t.T K F).ps li = [x] := by show (match t.defs[li]? with | some d => pars d | none => []) = _; rw [hdL]; exact hx
  have lenF : ∃ f, (t.T K F).P.fns[li]? = some f := by
    have hok := ok
    simp only [LawT.ok, Bool.and_eq_true, decide_eq_true_eq] at hok
    have h1 : li < t.defs.length := (List.getElem?_eq_some_iff.mp hdL).1
    have h2 : li < ((t.defs.zip t.nms).map t.fnOf).length := by rw [List.length_map, List.length_zip, hok.1.1.1.1]; omega
    exact ⟨_, List.getElem?_eq_getElem h2⟩
  obtain ⟨f, hf⟩ := lenF
  refine ⟨K, F li, spQ (t.T K F) l.prog w K 1 (fnAt t.P k li), inK, fun a o e => ?_, fun s u => ?_, fun a o ns hl => scr_sp (run ns hl), fun base inB glB => ?_⟩
  · have l2 := lk
    simp only [lookB, Bool.and_eq_true, List.all_eq_true] at l2
    have := l2.1.1.1.2 _ (He.lookup_mem e)
    simpa using this
  · obtain ⟨es, h1, h2, h3⟩ := tb.sg _ hsg s [u] [] rfl rfl
    simp only [permG, mapO, List.append_nil, List.getElem?_cons_zero, Option.some.injEq] at h1
    subst h1
    have h4 : BindsTo s (F li) ⟨[u], []⟩ (((t.T K F).ps li).zip [u]) := h3
    rw [eps] at h4
    exact h4
  · have tbB := tb_ok ok lk hF sg inB glB
    have := fns_all (P := l.prog) (w := w) tbB (fnk_ok ok hF) k li f hf
    rw [eps] at this
    exact this
end Q
end
section
set_option autoImplicit false
set_option Elab.async false
set_option linter.all false
set_option maxRecDepth 8000
set_option maxHeartbeats 4000000
/-! Q: what a run comes to: a value (Q), or an error that the text raises (E); no program in sight. -/
namespace Qw
open PySem Q
abbrev Ex := Nat → List (Str × D) → Sl → Hh → Prop
def NoE : Ex := fun _ _ _ _ => False
def Ex.at (X : Ex) (σ : Sl) : Ex := fun c fs _ h => X c fs σ h
def Ok {α : Type} (X : Ex) (r : Res α) (Q : α → Hh → Prop) : Prop := match r with
  | .ok a h => Q a h
  | .exc c fs σ h => X c fs σ h
  | .bad => False
section
variable {α β : Type} {X : Ex} {Q Q' : α → Hh → Prop} {R : β → Hh → Prop} {h : Hh}
theorem ok_ok {a : α} : Ok X (.ok a h) Q ↔ Q a h := Iff.rfl
theorem ok_bad : Ok X (.bad : Res α) Q ↔ False := Iff.rfl
theorem ok_bind {r : Res α} {f : α → Hh → Res β} : Ok X (r.bind f) R ↔ Ok X r fun a h1 => Ok X (f a h1) R := by cases r <;> exact Iff.rfl
theorem ok_bindN {r : Res α} {f : α → Hh → Res β} : Ok X (r.bindN f) R ↔ Ok NoE r fun a h1 => Ok X (f a h1) R := by cases r <;> exact Iff.rfl
theorem ok_atS {r : Res α} {σ : Sl} : Ok X (r.atS σ) Q ↔ Ok (X.at σ) r Q := by cases r <;> exact Iff.rfl
theorem at_at {σ σ' : Sl} : (X.at σ).at σ' = X.at σ := rfl
theorem Ok.mono {r : Res α} (q : Ok X r Q) (i : ∀ a h1, Q a h1 → Q' a h1) : Ok X r Q' := by
  cases r with
  | ok a h1 => exact i a h1 q
  | exc _ _ _ _ => exact q
  | bad => exact q
theorem Ok.ex {r : Res α} (q : Ok NoE r Q) : ∃ a h1, r = .ok a h1 ∧ Q a h1 := by
  cases r with
  | ok a h1 => exact ⟨a, h1, rfl, q⟩
  | exc _ _ _ _ => exact q.elim
  | bad => exact q.elim
theorem ok_of {r : Res α} {a : α} {h1 : Hh} (e : r = .ok a h1) (q : Q a h1) : Ok X r Q := by rw [e]; exact q
/-- a for, by an invariant -/
theorem ok_for {s : Src} {f : D → Sl → Hh → Res (Fl × Sl)} {Q : Fl × Sl → Hh → Prop} (Inv : Nat → Sl → Hh → Prop)
    (step : ∀ k σ h, k < s.n → Inv k σ h → ∃ d, s.at_ h k = some d ∧ Ok X (f d σ h) fun q h1 => match q.1 with
      | .nx => Inv (k + 1) q.2 h1
      | .rt e => Q (.rt e, q.2) h1)
    (last : ∀ σ h, Inv s.n σ h → s.fin h = true ∧ Q (.nx, σ) h) : ∀ (r k : Nat) (σ : Sl) (h : Hh), r + k = s.n → Inv k σ h → Ok X (goFor s f r k σ h) Q
  | 0, k, σ, h, e, i => by
    have e' : k = s.n := by omega
    subst e'
    obtain ⟨a, b⟩ := last σ h i
    unfold goFor
    rw [if_pos a]
    exact b
  | r + 1, k, σ, h, e, i => by
    obtain ⟨d, hd, q⟩ := step k σ h (by omega) i
    unfold goFor
    rw [hd]
    dsimp only
    rw [ok_bind]
    refine q.mono fun p h1 z => ?_
    obtain ⟨fl, σ'⟩ := p
    cases fl with
    | nx => exact ok_for Inv step last r (k + 1) σ' h1 (by omega) z
    | rt e => exact z
/-- a comprehension, by an invariant -/
theorem ok_lc {s : Src} {f : D → Hh → Res (Option α)} {Q : List α → Hh → Prop} (Inv : Nat → List α → Hh → Prop)
    (step : ∀ k acc h, k < s.n → Inv k acc h → ∃ d, s.at_ h k = some d ∧ Ok NoE (f d h) fun o h1 => match o with
      | some a => Inv (k + 1) (acc ++ [a]) h1
      | none => Inv (k + 1) acc h1)
    (last : ∀ acc h, Inv s.n acc h → s.fin h = true ∧ acc.length < maxLen ∧ Q acc h) : ∀ (r k : Nat) (acc : List α) (h : Hh), r + k = s.n → Inv k acc h → Ok X (goLc s f r k acc h) Q
  | 0, k, acc, h, e, i => by
    have e' : k = s.n := by omega
    subst e'
    obtain ⟨a, b, c⟩ := last acc h i
    unfold goLc
    rw [if_pos (by simp [a, b])]
    exact c
  | r + 1, k, acc, h, e, i => by
    obtain ⟨d, hd, q⟩ := step k acc h (by omega) i
    unfold goLc
    rw [hd]
    dsimp only
    rw [ok_bindN]
    refine q.mono fun o h1 z => ?_
    cases o with
    | some a => exact ok_lc Inv step last r (k + 1) (acc ++ [a]) h1 (by omega) z
    | none => exact ok_lc Inv step last r (k + 1) acc h1 (by omega) z
/-- a while, by a measure -/
theorem ok_while {c : Sl → Hh → Res Bool} {f : Sl → Hh → Res (Fl × Sl)} {Q : Fl × Sl → Hh → Prop} (Inv : Nat → Sl → Hh → Prop)
    (step : ∀ m σ h, Inv m σ h → Ok X (c σ h) fun b h1 => match b with
      | false => Q (.nx, σ) h1
      | true => Ok X (f σ h1) fun q h2 => match q.1 with
        | .nx => ∃ m', m' < m ∧ Inv m' q.2 h2
        | .rt e => Q (.rt e, q.2) h2) : ∀ (n m : Nat) (σ : Sl) (h : Hh), m < n → Inv m σ h → Ok X (goWhile c f n σ h) Q
  | 0, m, σ, h, l, _ => absurd l (Nat.not_lt_zero m)
  | n + 1, m, σ, h, l, i => by
    unfold goWhile
    rw [ok_bind]
    refine (step m σ h i).mono fun b h1 z => ?_
    cases b with
    | false => exact z
    | true =>
      dsimp only at z ⊢
      rw [ok_bind]
      refine Ok.mono z fun p h2 y => ?_
      obtain ⟨fl, σ'⟩ := p
      cases fl with
      | nx =>
        obtain ⟨m', h1, h2⟩ := y
        exact ok_while Inv step n m' σ' _ (by omega) h2
      | rt e => exact y
end
section
variable {P : Pg} {call : Call} {X : Ex} {σ : Sl} {h : Hh}
theorem ok_seq {s : S} {r : Ss} {Q : Fl × Sl → Hh → Prop} : Ok X (evSs P call (.cons s r) σ h) Q ↔ Ok X (evS P call s σ h) fun p h1 => match p.1 with
    | .nx => Ok X (evSs P call r p.2 h1) Q
    | .rt d => Q (.rt d, p.2) h1 := by
  simp only [evSs]
  rw [ok_bind]
  constructor
  · intro q
    refine q.mono fun p h1 z => ?_
    obtain ⟨fl, σ'⟩ := p
    cases fl <;> exact z
  · intro q
    refine q.mono fun p h1 z => ?_
    obtain ⟨fl, σ'⟩ := p
    cases fl <;> exact z
end
/-- a fork -/
def Brk (o : Option Bool) (A B : Prop) : Prop := match o with
  | some true => A
  | some false => B
  | none => False

theorem brk_t {A B : Prop} : Brk (some true) A B ↔ A := Iff.rfl
theorem brk_f {A B : Prop} : Brk (some false) A B ↔ B := Iff.rfl
theorem brk_i {b : Bool} {A B : Prop} (h1 : b = true → A) (h2 : b = false → B) : Brk (some b) A B := by
  cases b
  · exact h2 rfl
  · exact h1 rfl
theorem brk_d {p : Prop} [Decidable p] {A B : Prop} (h1 : p → A) (h2 : ¬p → B) : Brk (some (decide p)) A B := brk_i (fun e => h1 (of_decide_eq_true e)) (fun e => h2 (of_decide_eq_false e))
/-- a value that is there -/
def Hk {α : Type} (o : Option α) (Q : α → Prop) : Prop := match o with
  | some a => Q a
  | none => False

theorem hk_s {α : Type} {a : α} {Q : α → Prop} : Hk (some a) Q ↔ Q a := Iff.rfl
def Sq (P : Pg) (call : Call) (X : Ex) (r : Ss) (Q : Fl × Sl → Hh → Prop) : Fl × Sl → Hh → Prop := fun p h => match p.1 with
  | .nx => Ok X (evSs P call r p.2 h) Q
  | .rt d => Q (.rt d, p.2) h
def Fin (Q : D → Hh → Prop) : Fl × Sl → Hh → Prop := fun p h => match p.1 with
  | .nx => Q .non h
  | .rt d => Q d h
section
variable {P : Pg} {call : Call} {X : Ex} {σ : Sl} {h : Hh}
theorem sq_n {r : Ss} {Q : Fl × Sl → Hh → Prop} : Sq P call X r Q (.nx, σ) h ↔ Ok X (evSs P call r σ h) Q := Iff.rfl
theorem sq_r {r : Ss} {Q : Fl × Sl → Hh → Prop} {d : D} : Sq P call X r Q (.rt d, σ) h ↔ Q (.rt d, σ) h := Iff.rfl
theorem fin_n {Q : D → Hh → Prop} : Fin Q (.nx, σ) h ↔ Q .non h := Iff.rfl
theorem fin_r {Q : D → Hh → Prop} {d : D} : Fin Q (.rt d, σ) h ↔ Q d h := Iff.rfl
/-! ### statements -/
section
variable {Q : Fl × Sl → Hh → Prop}
theorem s_nil : Ok X (evSs P call .nil σ h) Q ↔ Q (.nx, σ) h := by simp only [evSs]; exact Iff.rfl
theorem s_cons {s : S} {r : Ss} : Ok X (evSs P call (.cons s r) σ h) Q ↔ Ok X (evS P call s σ h) (Sq P call X r Q) := ok_seq
theorem s_expr {e : E} : Ok X (evS P call (.expr e) σ h) Q ↔ Ok (X.at σ) (evE P call e σ h) fun _ h1 => Q (.nx, σ) h1 := by simp only [evS, ok_bind, ok_atS]; exact Iff.rfl
theorem s_set {t : Tg} {e : E} : Ok X (evS P call (.set t e) σ h) Q ↔ Ok (X.at σ) (evE P call e σ h) fun d h1 => Ok (X.at σ) (asT P call t d σ h1) fun σ' h2 => Q (.nx, σ') h2 := by simp only [evS, ok_bind, ok_atS]; exact Iff.rfl
theorem s_ret {e : E} : Ok X (evS P call (.ret e) σ h) Q ↔ Ok (X.at σ) (evE P call e σ h) fun d h1 => Q (.rt d, σ) h1 := by simp only [evS, ok_bind, ok_atS]; exact Iff.rfl
theorem ok_brk {c : Res Bool} {A B : Hh → Res (Fl × Sl)} : Ok X (c.bind fun t h1 => match t with
    | true => A h1
    | false => B h1) Q ↔ Ok X c fun t h1 => Brk (some t) (Ok X (A h1) Q) (Ok X (B h1) Q) := by
  rw [ok_bind]
  cases c with
  | ok b h1 => cases b <;> exact Iff.rfl
  | exc _ _ _ _ => exact Iff.rfl
  | bad => exact Iff.rfl
theorem ok_truth {d : D} {h1 : Hh} {A B : Hh → Prop} : Ok X (lift (truth h1 d) h1) (fun t h2 => Brk (some t) (A h2) (B h2)) ↔ Brk (truth h1 d) (A h1) (B h1) := by
  cases truth h1 d <;> exact Iff.rfl
theorem ok_fun {α : Type} {r : Res α} {Q Q' : α → Hh → Prop} (e : ∀ a h, Q a h ↔ Q' a h) : Ok X r Q ↔ Ok X r Q' := ⟨fun q => q.mono fun a h1 z => (e a h1).mp z, fun q => q.mono fun a h1 z => (e a h1).mpr z⟩
theorem s_iff {c : E} {a b : Ss} : Ok X (evS P call (.iff c a b) σ h) Q ↔ Ok (X.at σ) (evE P call c σ h) fun d h1 => Brk (truth h1 d) (Ok X (evSs P call a σ h1) Q) (Ok X (evSs P call b σ h1) Q) := by
  simp only [evS]
  refine Iff.trans (ok_brk (c := (evB P call c σ h).atS σ) (A := fun h1 => evSs P call a σ h1) (B := fun h1 => evSs P call b σ h1)) ?_
  rw [ok_atS]
  simp only [evB]
  rw [ok_bind]
  exact ok_fun fun d h1 => ok_truth
theorem s_pass : Ok X (evS P call .pass σ h) Q ↔ Q (.nx, σ) h := by simp only [evS]; exact Iff.rfl
def Fb (P : Pg) (call : Call) (t : Tg) (b : Ss) : D → Sl → Hh → Res (Fl × Sl) := fun d σ1 h2 => ((asT P call t d σ1 h2).atS σ1).bind fun σ2 h3 => evSs P call b σ2 h3
theorem s_fb {t : Tg} {b : Ss} {d : D} : Ok X (Fb P call t b d σ h) Q ↔ Ok (X.at σ) (asT P call t d σ h) fun σ2 h3 => Ok X (evSs P call b σ2 h3) Q := by
  unfold Fb
  rw [ok_bind, ok_atS]
theorem s_for {t : Tg} {s : It} {b : Ss} : Ok X (evS P call (.for_ t s b) σ h) Q ↔ Ok (X.at σ) (evIt P call s σ h) fun src h1 => Ok X (goFor src (Fb P call t b) src.n 0 σ h1) Q := by
  simp only [evS, ok_bind, ok_atS]; exact Iff.rfl
def Wc (P : Pg) (call : Call) (c : E) : Sl → Hh → Res Bool := fun σ1 h1 => (evB P call c σ1 h1).atS σ1
def Wb (P : Pg) (call : Call) (b : Ss) : Sl → Hh → Res (Fl × Sl) := fun σ1 h1 => evSs P call b σ1 h1
theorem s_while {c : E} {b : Ss} : Ok X (evS P call (.while_ c b) σ h) Q ↔ Ok X (goWhile (Wc P call c) (Wb P call b) P.fuel σ h) Q := by simp only [evS]; exact Iff.rfl
theorem s_wc {c : E} {Q : Bool → Hh → Prop} : Ok X (Wc P call c σ h) Q ↔ Ok (X.at σ) (evE P call c σ h) fun d h1 => Ok (X.at σ) (lift (truth h1 d) h1) Q := by
  unfold Wc
  rw [ok_atS]
  simp only [evB]
  rw [ok_bind]
theorem s_wb {b : Ss} : Ok X (Wb P call b σ h) Q ↔ Ok X (evSs P call b σ h) Q := Iff.rfl
theorem s_aug {i : Nat} {o : Op} {e : E} : Ok X (evS P call (.aug i o e) σ h) Q ↔ Hk (slotD σ i) fun d => Ok (X.at σ) (evE P call e σ h) fun x h1 => Ok X (liftH (opD o d x h1)) fun y h2 => Q (.nx, σ.set i (some y)) h2 := by
  simp only [evS]
  cases slotD σ i with
  | none => exact Iff.rfl
  | some d =>
    dsimp only
    rw [ok_bind, ok_atS, hk_s]
    exact ok_fun fun a h1 => by rw [ok_bind]; exact Iff.rfl
end
/-! ### targets -/
section
variable {Q : Sl → Hh → Prop}
theorem t_name {i : Nat} {d : D} : Ok X (asT P call (.name i) d σ h) Q ↔ Q (σ.set i (some d)) h := by simp only [asT]; exact Iff.rfl
theorem t_tup {ts : Tgs} {xs : List D} : Ok X (asT P call (.tup ts) (.tup xs) σ h) Q ↔ Ok X (asTs P call ts xs σ h) Q := by simp only [asT]
theorem t_nil : Ok X (asTs P call .nil [] σ h) Q ↔ Q σ h := by simp only [asTs]; exact Iff.rfl
theorem t_cons {t : Tg} {r : Tgs} {d : D} {ds : List D} : Ok X (asTs P call (.cons t r) (d :: ds) σ h) Q ↔ Ok X (asT P call t d σ h) fun σ1 h1 => Ok X (asTs P call r ds σ1 h1) Q := by simp only [asTs, ok_bind]
theorem hk_hh {o : Option Hh} : Ok X (match o with
    | some h3 => Res.ok σ h3
    | none => .bad) Q ↔ Hk o fun h3 => Q σ h3 := by cases o <;> exact Iff.rfl
theorem t_sub {a i : E} {v : D} : Ok X (asT P call (.sub a i) v σ h) Q ↔ Ok X (evE P call a σ h) fun d h1 => Ok X (evE P call i σ h1) fun k h2 => Hk (setD h2 d k v) fun h3 => Q σ h3 := by
  simp only [asT, ok_bind]
  exact ok_fun fun d h1 => ok_fun fun k h2 => hk_hh
theorem t_fld {a : E} {f : Str} {v : D} : Ok X (asT P call (.fld a f) v σ h) Q ↔ Ok X (evE P call a σ h) fun d h1 => Hk (setFld P h1 d f v) fun h2 => Q σ h2 := by
  simp only [asT, ok_bind]
  exact ok_fun fun d h1 => hk_hh
end
/-! ### expressions -/
section
variable {Q : D → Hh → Prop}
theorem e_slot {i : Nat} : Ok X (evE P call (.slot i) σ h) Q ↔ Hk (slotD σ i) fun d => Q d h := by
  simp only [evE]
  cases slotD σ i <;> exact Iff.rfl
theorem e_lit {d : D} : Ok X (evE P call (.lit d) σ h) Q ↔ Q d h := by simp only [evE]; exact Iff.rfl
theorem e_op {o : Op} {a b : E} : Ok X (evE P call (.op o a b) σ h) Q ↔ Ok X (evE P call a σ h) fun d h1 => Ok X (evE P call b σ h1) fun e h2 => Hk (opD o d e h2) fun p => Q p.1 p.2 := by
  simp only [evE, ok_bind]
  exact ok_fun fun d h1 => ok_fun fun e h2 => by cases opD o d e h2 <;> exact Iff.rfl
theorem e_cmp {o : Cp} {a b : E} : Ok X (evE P call (.cmp o a b) σ h) Q ↔ Ok X (evE P call a σ h) fun d h1 => Ok X (evE P call b σ h1) fun e h2 => Ok X (cmpO P call o d e h2) Q := by simp only [evE, ok_bind]
theorem e_chain {o p : Cp} {a b c : E} : Ok X (evE P call (.chain o p a b c) σ h) Q ↔ Ok X (evE P call a σ h) fun d h1 => Ok X (evE P call b σ h1) fun e h2 => Brk (cmpD o h2 d e)
    (Ok X (evE P call c σ h2) fun g h3 => Hk (cmpD p h3 e g) fun t => Q (.bl t) h3) (Q (.bl false) h2) := by
  simp only [evE, ok_bind]
  refine ok_fun fun d h1 => ok_fun fun e h2 => ?_
  match cmpD o h2 d e with
  | none => exact Iff.rfl
  | some false => exact Iff.rfl
  | some true =>
    dsimp only
    rw [ok_bind, brk_t]
    refine ok_fun fun g h3 => ?_
    cases cmpD p h3 e g <;> exact Iff.rfl
theorem e_nt {a : E} : Ok X (evE P call (.nt a) σ h) Q ↔ Ok X (evE P call a σ h) fun d h1 => Hk (truth h1 d) fun b => Q (.bl (!b)) h1 := by
  simp only [evE, ok_bind]
  exact ok_fun fun d h1 => by cases truth h1 d <;> exact Iff.rfl
theorem e_neg0 : True := trivial
theorem e_neg {a : E} {Q : D → Hh → Prop} : Ok X (evE P call (.neg a) σ h) Q ↔ Ok X (evE P call a σ h) fun d h1 => match d with
    | .int i => Q (.int (-i)) h1
    | _ => False := by
  simp only [evE, ok_bind]
  exact ok_fun fun d h1 => by cases d <;> exact Iff.rfl
theorem e_an {a b : E} : Ok X (evE P call (.an a b) σ h) Q ↔ Ok X (evE P call a σ h) fun d h1 => Brk (truth h1 d) (Ok X (evE P call b σ h1) Q) (Q d h1) := by
  simp only [evE, ok_bind]
  refine ok_fun fun d h1 => ?_
  match truth h1 d with
  | none => exact Iff.rfl
  | some false => exact Iff.rfl
  | some true => exact Iff.rfl
theorem e_orr {a b : E} : Ok X (evE P call (.orr a b) σ h) Q ↔ Ok X (evE P call a σ h) fun d h1 => Brk (truth h1 d) (Q d h1) (Ok X (evE P call b σ h1) Q) := by
  simp only [evE, ok_bind]
  refine ok_fun fun d h1 => ?_
  match truth h1 d with
  | none => exact Iff.rfl
  | some false => exact Iff.rfl
  | some true => exact Iff.rfl
theorem e_ite {c a b : E} : Ok X (evE P call (.ite c a b) σ h) Q ↔ Ok X (evE P call c σ h) fun d h1 => Brk (truth h1 d) (Ok X (evE P call a σ h1) Q) (Ok X (evE P call b σ h1) Q) := by
  simp only [evE, ok_bind]
  refine ok_fun fun d h1 => ?_
  match truth h1 d with
  | none => exact Iff.rfl
  | some false => exact Iff.rfl
  | some true => exact Iff.rfl
theorem e_tup {xs : Es} : Ok X (evE P call (.tup xs) σ h) Q ↔ Ok X (evEs P call xs σ h) fun ds h1 => ds.length ≤ maxLen ∧ Q (.tup ds) h1 := by
  simp only [evE, ok_bind]
  refine ok_fun fun ds h1 => ?_
  by_cases l : ds.length ≤ maxLen
  · rw [if_pos l]; exact ⟨fun z => ⟨l, z⟩, fun z => z.2⟩
  · rw [if_neg l]; exact ⟨fun z => z.elim, fun z => absurd z.1 l⟩
theorem e_lst {xs : Es} : Ok X (evE P call (.lst xs) σ h) Q ↔ Ok X (evEs P call xs σ h) fun ds h1 => ds.length ≤ maxLen ∧ Q (.ref h1.length) (h1 ++ [.lst ds]) := by
  simp only [evE, ok_bind]
  refine ok_fun fun ds h1 => ?_
  by_cases l : ds.length ≤ maxLen
  · rw [if_pos l]; exact ⟨fun z => ⟨l, z⟩, fun z => z.2⟩
  · rw [if_neg l]; exact ⟨fun z => z.elim, fun z => absurd z.1 l⟩
theorem e_dct {xs : Es} : Ok X (evE P call (.dct xs) σ h) Q ↔ Ok X (evEs P call xs σ h) fun ds h1 => Hk (dispD ds) fun kvs => Q (.ref h1.length) (h1 ++ [.dct kvs]) := by
  simp only [evE, ok_bind]
  exact ok_fun fun ds h1 => by cases dispD ds <;> exact Iff.rfl
theorem e_sub {a i : E} : Ok X (evE P call (.sub a i) σ h) Q ↔ Ok X (evE P call a σ h) fun d h1 => Ok X (evE P call i σ h1) fun k h2 => Hk (subD h2 d k) fun v => Q v h2 := by
  simp only [evE, ok_bind]
  exact ok_fun fun d h1 => ok_fun fun k h2 => by cases subD h2 d k <;> exact Iff.rfl
theorem e_slc {a : E} {lo hi : Oe} : Ok X (evE P call (.slc a lo hi) σ h) Q ↔ Ok X (evE P call a σ h) fun d h1 => Ok X (evO P call lo σ h1) fun l h2 => Ok X (evO P call hi σ h2) fun u h3 => Hk (slcD h3 d l u) fun p => Q p.1 p.2 := by
  simp only [evE, ok_bind]
  exact ok_fun fun d h1 => ok_fun fun l h2 => ok_fun fun u h3 => by cases slcD h3 d l u <;> exact Iff.rfl
theorem e_rev {a : E} : Ok X (evE P call (.rev a) σ h) Q ↔ Ok X (evE P call a σ h) fun d h1 => Hk (revD h1 d) fun p => Q p.1 p.2 := by
  simp only [evE, ok_bind]
  exact ok_fun fun d h1 => by cases revD h1 d <;> exact Iff.rfl
theorem e_fld {a : E} {f : Str} : Ok X (evE P call (.fld a f) σ h) Q ↔ Ok X (evE P call a σ h) fun d h1 => Hk (fldD P h1 d f) fun v => Q v h1 := by
  simp only [evE, ok_bind]
  exact ok_fun fun d h1 => by cases fldD P h1 d f <;> exact Iff.rfl
theorem e_call {f : Nat} {xs ks : Es} {perm : List Nat} : Ok X (evE P call (.call f xs ks perm) σ h) Q ↔ Ok X (evEs P call xs σ h) fun ds h1 => Ok X (evEs P call ks σ h1) fun gs h2 => Hk (permD perm (ds ++ gs)) fun es => Ok X (call f es h2) Q := by
  simp only [evE, ok_bind]
  exact ok_fun fun ds h1 => ok_fun fun gs h2 => by cases permD perm (ds ++ gs) <;> exact Iff.rfl
def MkQ (Q : D → Hh → Prop) (i : Nat) : D → Hh → Prop := fun r h3 => match r with
  | .non => Q (.ref i) h3
  | _ => False
theorem mk_n {i : Nat} : MkQ Q i .non h ↔ Q (.ref i) h := Iff.rfl
theorem e_mk {c : Nat} {xs ks : Es} {perm : List Nat} : Ok X (evE P call (.mk c xs ks perm) σ h) Q ↔ Ok X (evEs P call xs σ h) fun ds h1 => Ok X (evEs P call ks σ h1) fun gs h2 => Hk (permD perm (.ref h2.length :: (ds ++ gs))) fun es => Hk (P.cls[c]?) fun k =>
    Ok X (call k.init es (h2 ++ [.obj c []])) (MkQ Q h2.length) := by
  simp only [evE, ok_bind]
  refine ok_fun fun ds h1 => ok_fun fun gs h2 => ?_
  cases permD perm (.ref h2.length :: (ds ++ gs)) with
  | none => exact Iff.rfl
  | some es =>
    cases P.cls[c]? with
    | none => exact Iff.rfl
    | some k =>
      dsimp only
      rw [ok_bind, hk_s, hk_s]
      refine ok_fun fun r h3 => ?_
      cases r <;> exact Iff.rfl
theorem e_meth {a : E} {m : Str} {xs ks : Es} {perm : List Nat} : Ok X (evE P call (.meth a m xs ks perm) σ h) Q ↔ Ok X (evE P call a σ h) fun d h1 => Hk (objM P h1 d m) fun f => Ok X (evEs P call xs σ h1) fun ds h2 => Ok X (evEs P call ks σ h2) fun gs h3 => Hk (permD perm (d :: (ds ++ gs))) fun es => Ok X (call f es h3) Q := by
  simp only [evE, ok_bind]
  refine ok_fun fun d h1 => ?_
  cases objM P h1 d m with
  | none => exact Iff.rfl
  | some f =>
    dsimp only
    rw [ok_bind, hk_s]
    refine ok_fun fun ds h2 => ?_
    rw [ok_bind]
    refine ok_fun fun gs h3 => ?_
    cases permD perm (d :: (ds ++ gs)) <;> exact Iff.rfl
theorem e_blt {b : Bt} {xs : Es} : Ok X (evE P call (.blt b xs) σ h) Q ↔ Ok X (evEs P call xs σ h) fun ds h1 => Hk (btD b ds h1) fun p => Q p.1 p.2 := by
  simp only [evE, ok_bind]
  exact ok_fun fun ds h1 => by cases btD b ds h1 <;> exact Iff.rfl
theorem e_bm {m : Bm} {a : E} {xs : Es} : Ok X (evE P call (.bm m a xs) σ h) Q ↔ Ok X (evE P call a σ h) fun d h1 => Hk (kindD h1 d) fun k => Brk (some (bmK k m)) (Ok X (evEs P call xs σ h1) fun ds h2 => kindD h2 d = some k ∧ Hk (bmD m d ds h2) fun p => Q p.1 p.2) False := by
  simp only [evE, ok_bind]
  refine ok_fun fun d h1 => ?_
  cases kindD h1 d with
  | none => exact Iff.rfl
  | some k =>
    dsimp only
    rw [hk_s]
    cases bmK k m with
    | false => exact Iff.rfl
    | true =>
      dsimp only
      rw [ok_bind, brk_t]
      refine ok_fun fun ds h2 => ?_
      by_cases l : kindD h2 d = some k
      · rw [if_pos l]
        cases bmD m d ds h2 with
        | none => exact ⟨fun z => z.elim, fun z => z.2.elim⟩
        | some p => exact ⟨fun z => ⟨l, z⟩, fun z => z.2⟩
      · rw [if_neg l]; exact ⟨fun z => z.elim, fun z => absurd z.1 l⟩
theorem e_isi {a : E} {ts : List Ty} : Ok X (evE P call (.isi a ts) σ h) Q ↔ Ok X (evE P call a σ h) fun d h1 => Hk (mapO (isiD h1 d) ts) fun bs => Q (.bl (bs.any id)) h1 := by
  simp only [evE, ok_bind]
  exact ok_fun fun d h1 => by cases mapO (isiD h1 d) ts <;> exact Iff.rfl
def Lb (P : Pg) (call : Call) (elt : E) (t : Tg) (ifs : Es) (own : List Nat) (σ : Sl) : D → Hh → Res (Option D) := fun d h2 => (asT P call t d (wipeS σ own) h2).bind fun σ' h3 => (evTs P call ifs σ' h3).bind fun b h4 => match b with
      | true => (evE P call elt σ' h4).bind fun e h5 => .ok (some e) h5
      | false => .ok none h4
theorem e_lc {elt : E} {t : Tg} {s : It} {ifs : Es} {own : List Nat} : Ok X (evE P call (.lc elt t s ifs own) σ h) Q ↔ Ok X (evIt P call s σ h) fun src h1 => Ok X (goLc src (Lb P call elt t ifs own σ) src.n 0 [] h1) fun ds h2 => Q (.ref h2.length) (h2 ++ [.lst ds]) := by
  simp only [evE, ok_bind]; exact Iff.rfl
theorem e_lb {elt : E} {t : Tg} {ifs : Es} {own : List Nat} {d : D} {Q : Option D → Hh → Prop} : Ok X (Lb P call elt t ifs own σ d h) Q ↔ Ok X (asT P call t d (wipeS σ own) h) fun σ' h3 => Ok X (evTs P call ifs σ' h3) fun b h4 => Brk (some b) (Ok X (evE P call elt σ' h4) fun e h5 => Q (some e) h5) (Q none h4) := by
  unfold Lb
  rw [ok_bind]
  refine ok_fun fun σ' h3 => ?_
  rw [ok_bind]
  refine ok_fun fun b h4 => ?_
  cases b with
  | false => exact Iff.rfl
  | true =>
    dsimp only
    rw [ok_bind]
    exact Iff.rfl
end
section
variable {Q : List D → Hh → Prop}
theorem es_nil : Ok X (evEs P call .nil σ h) Q ↔ Q [] h := by simp only [evEs]; exact Iff.rfl
theorem es_cons {e : E} {r : Es} : Ok X (evEs P call (.cons e r) σ h) Q ↔ Ok X (evE P call e σ h) fun d h1 => Ok X (evEs P call r σ h1) fun ds h2 => Q (d :: ds) h2 := by simp only [evEs, ok_bind]; exact Iff.rfl
theorem es_star {e : E} {r : Es} : Ok X (evEs P call (.star e r) σ h) Q ↔ Ok X (evE P call e σ h) fun d h1 => Hk (itemsOf h1 d) fun xs => Ok X (evEs P call r σ h1) fun ds h2 => Q (xs ++ ds) h2 := by
  simp only [evEs, ok_bind]
  refine ok_fun fun d h1 => ?_
  cases itemsOf h1 d with
  | none => exact Iff.rfl
  | some xs =>
    dsimp only
    rw [ok_bind]
    exact Iff.rfl
end
section
variable {Q : Bool → Hh → Prop}
theorem ts_nil : Ok X (evTs P call .nil σ h) Q ↔ Q true h := by simp only [evTs]; exact Iff.rfl
theorem ts_cons {e : E} {r : Es} : Ok X (evTs P call (.cons e r) σ h) Q ↔ Ok X (evE P call e σ h) fun d h1 => Brk (truth h1 d) (Ok X (evTs P call r σ h1) Q) (Q false h1) := by
  simp only [evTs, ok_bind]
  refine ok_fun fun d h1 => ?_
  match truth h1 d with
  | none => exact Iff.rfl
  | some false => exact Iff.rfl
  | some true => exact Iff.rfl
end
section
variable {Q : Option Int → Hh → Prop}
theorem o_none : Ok X (evO P call .none σ h) Q ↔ Q none h := by simp only [evO]; exact Iff.rfl
def IntQ (d : D) (Q : Int → Prop) : Prop := match d with
  | .int i => Q i
  | _ => False
theorem int_q {i : Int} {Q : Int → Prop} : IntQ (.int i) Q ↔ Q i := Iff.rfl

theorem o_some {e : E} : Ok X (evO P call (.some e) σ h) Q ↔ Ok X (evE P call e σ h) fun d h1 => IntQ d fun i => Q (some i) h1 := by
  simp only [evO, ok_bind]
  exact ok_fun fun d h1 => by cases d <;> exact Iff.rfl
end
section
variable {Q : Src → Hh → Prop}
theorem i_e {a : E} : Ok X (evIt P call (.e a) σ h) Q ↔ Ok X (evE P call a σ h) fun d h1 => Hk (srcOf h1 d) fun s => Q s h1 := by
  simp only [evIt, ok_bind]
  exact ok_fun fun d h1 => by cases srcOf h1 d <;> exact Iff.rfl
theorem i_r1 {a : E} : Ok X (evIt P call (.range1 a) σ h) Q ↔ Ok X (evE P call a σ h) fun d h1 => IntQ d fun n => okRange 0 n = true ∧ Q (srcRange 0 n) h1 := by
  simp only [evIt, ok_bind]
  refine ok_fun fun d h1 => ?_
  cases d with
  | int n =>
    dsimp only
    rw [int_q]
    by_cases l : okRange 0 n = true
    · rw [if_pos l]; exact ⟨fun z => ⟨l, z⟩, fun z => z.2⟩
    · rw [if_neg l]; exact ⟨fun z => z.elim, fun z => absurd z.1 l⟩
  | _ => exact Iff.rfl
theorem i_r2 {a b : E} : Ok X (evIt P call (.range2 a b) σ h) Q ↔ Ok X (evE P call a σ h) fun d h1 => Ok X (evE P call b σ h1) fun e h2 => IntQ d fun m => IntQ e fun n => okRange m n = true ∧ Q (srcRange m n) h2 := by
  simp only [evIt, ok_bind]
  refine ok_fun fun d h1 => ok_fun fun e h2 => ?_
  cases d with
  | int m =>
    cases e with
    | int n =>
      dsimp only
      rw [int_q, int_q]
      by_cases l : okRange m n = true
      · rw [if_pos l]; exact ⟨fun z => ⟨l, z⟩, fun z => z.2⟩
      · rw [if_neg l]; exact ⟨fun z => z.elim, fun z => absurd z.1 l⟩
    | _ => exact Iff.rfl
  | _ => exact Iff.rfl
theorem i_enum {a : E} : Ok X (evIt P call (.enum a) σ h) Q ↔ Ok X (evE P call a σ h) fun d h1 => Hk (srcOf h1 d) fun s => Q (srcEnum s 0) h1 := by
  simp only [evIt, ok_bind]
  exact ok_fun fun d h1 => by cases srcOf h1 d <;> exact Iff.rfl
theorem i_enumS {a k : E} : Ok X (evIt P call (.enumS a k) σ h) Q ↔ Ok X (evE P call a σ h) fun d h1 => Ok X (evE P call k σ h1) fun e h2 => IntQ e fun k0 => Hk (srcOf h2 d) fun s => Q (srcEnum s k0) h2 := by
  simp only [evIt, ok_bind]
  refine ok_fun fun d h1 => ok_fun fun e h2 => ?_
  cases e with
  | int k0 =>
    dsimp only
    rw [int_q]
    cases srcOf h2 d <;> exact Iff.rfl
  | _ => exact Iff.rfl
theorem i_zip {a b : E} : Ok X (evIt P call (.zip a b) σ h) Q ↔ Ok X (evE P call a σ h) fun d h1 => Ok X (evE P call b σ h1) fun e h2 => Hk (srcOf h2 d) fun s => Hk (srcOf h2 e) fun t => Q (srcZip s t) h2 := by
  simp only [evIt, ok_bind]
  refine ok_fun fun d h1 => ok_fun fun e h2 => ?_
  cases srcOf h2 d with
  | none => cases srcOf h2 e <;> exact Iff.rfl
  | some s => cases srcOf h2 e <;> exact Iff.rfl
end
end
/-! ### what is walked, as a list -/
def goForL (f : D → Sl → Hh → Res (Fl × Sl)) : List D → Sl → Hh → Res (Fl × Sl)
  | [], σ, h => .ok (.nx, σ) h
  | d :: ds, σ, h => (f d σ h).bind fun q h' => match q.1 with
    | .nx => goForL f ds q.2 h'
    | .rt e => .ok (.rt e, q.2) h'
def Nx (X : Ex) (f : D → Sl → Hh → Res (Fl × Sl)) (ds : List D) (Q : Fl × Sl → Hh → Prop) : Fl × Sl → Hh → Prop := fun p h => match p.1 with
  | .nx => Ok X (goForL f ds p.2 h) Q
  | .rt d => Q (.rt d, p.2) h
section
variable {X : Ex} {f : D → Sl → Hh → Res (Fl × Sl)} {σ : Sl} {h : Hh} {Q : Fl × Sl → Hh → Prop}
theorem nx_n {ds : List D} : Nx X f ds Q (.nx, σ) h ↔ Ok X (goForL f ds σ h) Q := Iff.rfl
theorem nx_r {ds : List D} {d : D} : Nx X f ds Q (.rt d, σ) h ↔ Q (.rt d, σ) h := Iff.rfl
theorem l_nil : Ok X (goForL f [] σ h) Q ↔ Q (.nx, σ) h := Iff.rfl
theorem l_cons {d : D} {ds : List D} : Ok X (goForL f (d :: ds) σ h) Q ↔ Ok X (f d σ h) (Nx X f ds Q) := by
  simp only [goForL]
  rw [ok_bind]
  refine ok_fun fun p h1 => ?_
  obtain ⟨fl, σ'⟩ := p
  cases fl <;> exact Iff.rfl
theorem for_at {s : Src} {xs : List D} (hn : s.n = xs.length) (ha : ∀ (h : Hh) (k : Nat), k < s.n → s.at_ h k = xs[k]?) (hf : ∀ h : Hh, s.fin h = true) : ∀ (r k : Nat) (σ : Sl) (h : Hh), r + k = s.n → goFor s f r k σ h = goForL f (xs.drop k) σ h
  | 0, k, σ, h, e => by
    rw [List.drop_eq_nil_of_le (by omega)]
    unfold goFor goForL
    rw [if_pos (hf h)]
  | r + 1, k, σ, h, e => by
    have lk : k < xs.length := by omega
    rw [List.drop_eq_getElem_cons lk]
    unfold goFor goForL
    rw [ha h k (by omega), List.getElem?_eq_getElem lk]
    dsimp only
    congr 1
    funext q h'
    obtain ⟨fl, σ'⟩ := q
    cases fl with
    | nx => exact for_at hn ha hf r (k + 1) σ' h' (by omega)
    | rt e => rfl
theorem for_at0 {s : Src} {xs : List D} (hn : s.n = xs.length) (ha : ∀ (h : Hh) (k : Nat), k < s.n → s.at_ h k = xs[k]?) (hf : ∀ h : Hh, s.fin h = true) : goFor s f s.n 0 σ h = goForL f xs σ h := for_at hn ha hf s.n 0 σ h rfl
theorem l_imm {xs : List D} : goFor (srcImm xs) f (srcImm xs).n 0 σ h = goForL f xs σ h := for_at0 rfl (fun _ _ _ => rfl) fun _ => rfl
theorem rangeL_len (lo hi : Int) : (rangeL lo hi).length = (hi - lo).toNat := by simp [rangeL]
theorem rangeL_get {lo hi : Int} {k : Nat} (l : k < (hi - lo).toNat) : (rangeL lo hi)[k]? = some (.int (lo + (k : Nat))) := by
  simp only [rangeL, List.getElem?_map, List.getElem?_range l, Option.map_some]
theorem l_range {lo hi : Int} : goFor (srcRange lo hi) f (srcRange lo hi).n 0 σ h = goForL f (rangeL lo hi) σ h := for_at0 (rangeL_len lo hi).symm (fun _ k l => (rangeL_get l).symm) fun _ => rfl
def enumL (k : Int) : List D → List D
  | [] => []
  | d :: ds => .tup [.int k, d] :: enumL (k + 1) ds
theorem enumL_len : ∀ (xs : List D) (k : Int), (enumL k xs).length = xs.length
  | [], _ => rfl
  | _ :: r, k => by simp only [enumL, List.length_cons, enumL_len r]
theorem enumL_get : ∀ (xs : List D) (k : Int) (n : Nat), (enumL k xs)[n]? = (xs[n]?).map fun d => .tup [.int (k + (n : Nat)), d]
  | [], _, _ => by simp [enumL]
  | x :: r, k, 0 => by simp [enumL]
  | x :: r, k, n + 1 => by
    simp only [enumL, List.getElem?_cons_succ, enumL_get r]
    rw [show (k + 1 + (n : Int)) = (k + ((n + 1 : Nat) : Int)) by omega]
theorem l_enum {xs : List D} {k : Int} : goFor (srcEnum (srcImm xs) k) f (srcEnum (srcImm xs) k).n 0 σ h = goForL f (enumL k xs) σ h := for_at0 (enumL_len xs k).symm (fun _ n _ => (enumL_get xs k n).symm) fun _ => rfl
def zipL : List D → List D → List D
  | d :: ds, e :: es => .tup [d, e] :: zipL ds es
  | _, _ => []
theorem zipL_len : ∀ (xs ys : List D), (zipL xs ys).length = min xs.length ys.length
  | [], ys => by simp [zipL]
  | x :: xs, [] => by simp [zipL]
  | x :: xs, y :: ys => by simp only [zipL, List.length_cons, zipL_len xs ys]; omega
theorem zipL_get : ∀ (xs ys : List D) (n : Nat), (zipL xs ys)[n]? = match xs[n]?, ys[n]? with
    | some d, some e => some (.tup [d, e])
    | _, _ => none
  | [], ys, n => by simp [zipL]
  | x :: xs, [], n => by simp only [zipL, List.getElem?_nil]; cases (x :: xs)[n]? <;> rfl
  | x :: xs, y :: ys, 0 => rfl
  | x :: xs, y :: ys, n + 1 => by simp only [zipL, List.getElem?_cons_succ, zipL_get xs ys n]
theorem l_zip {xs ys : List D} : goFor (srcZip (srcImm xs) (srcImm ys)) f (srcZip (srcImm xs) (srcImm ys)).n 0 σ h = goForL f (zipL xs ys) σ h := for_at0 (zipL_len xs ys).symm (fun _ n _ => (zipL_get xs ys n).symm) fun _ => rfl
/-- a walk of a list by an invariant over what is done and what is left -/
theorem ok_forL (I : List D → List D → Sl → Hh → Prop) (step : ∀ a x r σ h, I a (x :: r) σ h → Ok X (f x σ h) fun q h1 => match q.1 with
      | .nx => I (a ++ [x]) r q.2 h1
      | .rt e => Q (.rt e, q.2) h1) : ∀ (r a : List D) (σ : Sl) (h : Hh), (last : ∀ b σ h, b = a ++ r → I b [] σ h → Q (.nx, σ) h) → I a r σ h → Ok X (goForL f r σ h) Q
  | [], a, σ, h, last, i => last a σ h (by simp) i
  | x :: r, a, σ, h, last, i => by
    rw [l_cons]
    refine (step a x r σ h i).mono fun p h1 z => ?_
    obtain ⟨fl, σ'⟩ := p
    cases fl with
    | nx => exact ok_forL I step r (a ++ [x]) σ' h1 (fun b σ h e => last b σ h (by rw [e, List.append_assoc]; rfl)) z
    | rt e => exact z
/-- .. of the items of a cell that stays -/
theorem ok_forC {i : Nat} {xs : List D} (I : List D → List D → Sl → Hh → Prop) (cell : ∀ a r σ h, I a r σ h → lstOf h (.ref i) = some xs)
    (step : ∀ a x r σ h, I a (x :: r) σ h → Ok X (f x σ h) fun q h1 => match q.1 with
      | .nx => I (a ++ [x]) r q.2 h1
      | .rt e => Q (.rt e, q.2) h1)
    (last : ∀ σ h, I xs [] σ h → Q (.nx, σ) h) (i0 : I [] xs σ h) : Ok X (goFor (srcCell i xs.length) f (srcCell i xs.length).n 0 σ h) Q := by
  refine ok_for (fun k σ h => I (xs.take k) (xs.drop k) σ h) ?_ ?_ _ 0 σ h rfl (by simpa using i0)
  · intro k σ h lk iv
    have lk' : k < xs.length := lk
    refine ⟨xs[k], ?_, ?_⟩
    · simp only [srcCell, cell _ _ _ _ iv, if_true, List.getElem?_eq_getElem lk']
    · rw [List.drop_eq_getElem_cons lk'] at iv
      refine (step _ _ _ _ _ iv).mono fun p h1 z => ?_
      obtain ⟨fl, σ'⟩ := p
      cases fl with
      | nx => simpa [List.take_append_getElem] using z
      | rt e => exact z
  · intro σ h iv
    have e : (srcCell i xs.length).n = xs.length := rfl
    rw [e, List.take_length, List.drop_length] at iv
    exact ⟨by simp [srcCell, cell _ _ _ _ iv], last σ h iv⟩
end
/-! ### comprehensions -/
section
variable {X : Ex} {α : Type} {f : D → Hh → Res (Option α)} {h : Hh} {Q : List α → Hh → Prop}
/-- over a list, by an invariant over what is done, what is left and what is there -/
theorem ok_lcS {s : Src} {xs : List D} (hn : s.n = xs.length) (I : List D → List D → List α → Hh → Prop)
    (ha : ∀ (a r : List D) (acc : List α) (h : Hh), I a r acc h → a ++ r = xs → (∀ x r', r = x :: r' → s.at_ h a.length = some x) ∧ (r = [] → s.fin h = true))
    (step : ∀ a x r acc h, a ++ x :: r = xs → I a (x :: r) acc h → Ok NoE (f x h) fun o h1 => match o with
      | some y => I (a ++ [x]) r (acc ++ [y]) h1
      | none => I (a ++ [x]) r acc h1)
    (last : ∀ acc h, I xs [] acc h → acc.length < maxLen ∧ Q acc h) (i0 : I [] xs [] h) : Ok X (goLc s f s.n 0 [] h) Q := by
  refine ok_lc (fun k acc h => I (xs.take k) (xs.drop k) acc h) ?_ ?_ _ 0 [] h rfl (by simpa using i0)
  · intro k acc h lk iv
    have lk' : k < xs.length := by omega
    have hl : (xs.take k).length = k := by simp; omega
    refine ⟨xs[k], ?_, ?_⟩
    · have := (ha _ _ _ _ iv (List.take_append_drop k xs)).1 _ _ (List.drop_eq_getElem_cons lk')
      rw [hl] at this
      exact this
    · have e := List.drop_eq_getElem_cons lk'
      rw [e] at iv
      refine (step _ _ _ _ _ (by rw [← e]; exact List.take_append_drop k xs) iv).mono fun o h1 z => ?_
      cases o <;> simpa [List.take_append_getElem] using z
  · intro acc h iv
    rw [hn, List.take_length, List.drop_length] at iv
    exact ⟨(ha _ _ _ _ iv (by simp)).2 rfl, last acc h iv⟩
end
end Qw
end
section
set_option autoImplicit false
set_option Elab.async false
set_option linter.all false
set_option maxRecDepth 8000
set_option maxHeartbeats 4000000
/-! Q: the rules of QW0 for simp: what comes behind is an argument that it does not enter (printed by gw.py). -/
namespace Qw
open PySem Q
abbrev RQ {α : Type} (X : Ex) (Q : α → Hh → Prop) : Type := Res α
@[irreducible] def Wk {α : Type} (X : Ex) (Q : α → Hh → Prop) (r : RQ X Q) : Prop := Ok X r Q
theorem wk_iff {α : Type} {X : Ex} {Q : α → Hh → Prop} {r : Res α} : Wk X Q r ↔ Ok X r Q := by unfold Wk; exact Iff.rfl
abbrev OQ {α : Type} (Q : α → Prop) : Type := Option α
def Wo {α : Type} (Q : α → Prop) (o : OQ Q) : Prop := Hk o Q
abbrev BQ (A B : Prop) : Type := Option Bool
abbrev PQ (Q : D → Hh → Prop) : Type := Option (D × Hh)
def Wp (Q : D → Hh → Prop) (o : PQ Q) : Prop := Hk o fun p => Q p.1 p.2
def Wf (A B : Prop) (o : BQ A B) : Prop := Brk o A B
abbrev DQ (Q : Int → Prop) : Type := D
def Wi (Q : Int → Prop) (d : DQ Q) : Prop := IntQ d Q
def Sqw (P : Pg) (call : Call) (X : Ex) (r : Ss) (Q : Fl × Sl → Hh → Prop) : Fl × Sl → Hh → Prop := fun p h => match p.1 with
  | .nx => Wk X Q (evSs P call r p.2 h)
  | .rt d => Q (.rt d, p.2) h
theorem sqw_eq {P : Pg} {call : Call} {X : Ex} {r : Ss} {Q : Fl × Sl → Hh → Prop} : Sqw P call X r Q = Sq P call X r Q := by
  funext p h
  obtain ⟨fl, σ⟩ := p
  cases fl with
  | nx => unfold Sqw Sq Wk; rfl
  | rt d => rfl
def Nxw (X : Ex) (f : D → Sl → Hh → Res (Fl × Sl)) (ds : List D) (Q : Fl × Sl → Hh → Prop) : Fl × Sl → Hh → Prop := fun p h => match p.1 with
  | .nx => Wk X Q (goForL f ds p.2 h)
  | .rt d => Q (.rt d, p.2) h
theorem nxw_eq {X : Ex} {f : D → Sl → Hh → Res (Fl × Sl)} {ds : List D} {Q : Fl × Sl → Hh → Prop} : Nxw X f ds Q = Nx X f ds Q := by
  funext p h
  obtain ⟨fl, σ⟩ := p
  cases fl with
  | nx => unfold Nxw Nx Wk; rfl
  | rt d => rfl
section
variable {P : Pg} {call : Call} {X : Ex} {σ : Sl} {h : Hh} {f : D → Sl → Hh → Res (Fl × Sl)}
theorem wbrk_t {A B : Prop} : Wf A B (some true) ↔ A := by
  try unfold Wk
  exact brk_t
theorem wbrk_f {A B : Prop} : Wf A B (some false) ↔ B := by
  try unfold Wk
  exact brk_f
theorem whk_s {α : Type} {a : α} {Q : α → Prop} : Wo Q (some a) ↔ Q a := by
  try unfold Wk
  exact hk_s
theorem wsq_n {r : Ss} {Q : Fl × Sl → Hh → Prop} : Sqw P call X r Q (.nx, σ) h ↔ Wk X Q (evSs P call r σ h) := by
  rw [sqw_eq]; try unfold Wk
  exact sq_n
theorem wsq_r {r : Ss} {Q : Fl × Sl → Hh → Prop} {d : D} : Sqw P call X r Q (.rt d, σ) h ↔ Q (.rt d, σ) h := by
  rw [sqw_eq]; try unfold Wk
  exact sq_r
theorem wfin_n {Q : D → Hh → Prop} : Fin Q (.nx, σ) h ↔ Q .non h := by
  try unfold Wk
  exact fin_n
theorem wfin_r {Q : D → Hh → Prop} {d : D} : Fin Q (.rt d, σ) h ↔ Q d h := by
  try unfold Wk
  exact fin_r
theorem ws_nil {Q : Fl × Sl → Hh → Prop} : Wk X Q (evSs P call .nil σ h) ↔ Q (.nx, σ) h := by
  try unfold Wk
  exact s_nil
theorem ws_cons {s : S} {r : Ss} {Q : Fl × Sl → Hh → Prop} : Wk X Q (evSs P call (.cons s r) σ h) ↔ Wk X (Sqw P call X r Q) (evS P call s σ h) := by
  rw [sqw_eq]; try unfold Wk
  exact s_cons
theorem ws_expr {e : E} {Q : Fl × Sl → Hh → Prop} : Wk X Q (evS P call (.expr e) σ h) ↔ Wk (X.at σ) (fun _ h1 => Q (.nx, σ) h1) (evE P call e σ h) := by
  try unfold Wk
  exact s_expr
theorem ws_set {t : Tg} {e : E} {Q : Fl × Sl → Hh → Prop} : Wk X Q (evS P call (.set t e) σ h) ↔ Wk (X.at σ) (fun d h1 => Wk (X.at σ) (fun σ' h2 => Q (.nx, σ') h2) (asT P call t d σ h1)) (evE P call e σ h) := by
  try unfold Wk
  exact s_set
theorem ws_ret {e : E} {Q : Fl × Sl → Hh → Prop} : Wk X Q (evS P call (.ret e) σ h) ↔ Wk (X.at σ) (fun d h1 => Q (.rt d, σ) h1) (evE P call e σ h) := by
  try unfold Wk
  exact s_ret
theorem ws_iff {c : E} {a b : Ss} {Q : Fl × Sl → Hh → Prop} : Wk X Q (evS P call (.iff c a b) σ h) ↔ Wk (X.at σ) (fun d h1 => Wf (Wk X Q (evSs P call a σ h1)) (Wk X Q (evSs P call b σ h1)) (truth h1 d)) (evE P call c σ h) := by
  try unfold Wk
  exact s_iff
theorem ws_pass {Q : Fl × Sl → Hh → Prop} : Wk X Q (evS P call .pass σ h) ↔ Q (.nx, σ) h := by
  try unfold Wk
  exact s_pass
theorem ws_fb {t : Tg} {b : Ss} {d : D} {Q : Fl × Sl → Hh → Prop} : Wk X Q (Fb P call t b d σ h) ↔ Wk (X.at σ) (fun σ2 h3 => Wk X Q (evSs P call b σ2 h3)) (asT P call t d σ h) := by
  try unfold Wk
  exact s_fb
theorem ws_for {t : Tg} {s : It} {b : Ss} {Q : Fl × Sl → Hh → Prop} : Wk X Q (evS P call (.for_ t s b) σ h) ↔ Wk (X.at σ) (fun src h1 => Wk X Q (goFor src (Fb P call t b) src.n 0 σ h1)) (evIt P call s σ h) := by
  try unfold Wk
  exact s_for
theorem ws_while {c : E} {b : Ss} {Q : Fl × Sl → Hh → Prop} : Wk X Q (evS P call (.while_ c b) σ h) ↔ Wk X Q (goWhile (Wc P call c) (Wb P call b) P.fuel σ h) := by
  try unfold Wk
  exact s_while
theorem ws_wc {c : E} {Q : Bool → Hh → Prop} : Wk X Q (Wc P call c σ h) ↔ Wk (X.at σ) (fun d h1 => Wk (X.at σ) Q (lift (truth h1 d) h1)) (evE P call c σ h) := by
  try unfold Wk
  exact s_wc
theorem ws_wb {b : Ss} {Q : Fl × Sl → Hh → Prop} : Wk X Q (Wb P call b σ h) ↔ Wk X Q (evSs P call b σ h) := by
  try unfold Wk
  exact s_wb
theorem ws_aug {i : Nat} {o : Op} {e : E} {Q : Fl × Sl → Hh → Prop} : Wk X Q (evS P call (.aug i o e) σ h) ↔ Wo (fun d => Wk (X.at σ) (fun x h1 => Wk X (fun y h2 => Q (.nx, σ.set i (some y)) h2) (liftH (opD o d x h1))) (evE P call e σ h)) (slotD σ i) := by
  try unfold Wk
  exact s_aug
theorem wt_name {i : Nat} {d : D} {Q : Sl → Hh → Prop} : Wk X Q (asT P call (.name i) d σ h) ↔ Q (σ.set i (some d)) h := by
  try unfold Wk
  exact t_name
theorem wt_tup {ts : Tgs} {xs : List D} {Q : Sl → Hh → Prop} : Wk X Q (asT P call (.tup ts) (.tup xs) σ h) ↔ Wk X Q (asTs P call ts xs σ h) := by
  try unfold Wk
  exact t_tup
theorem wt_nil {Q : Sl → Hh → Prop} : Wk X Q (asTs P call .nil [] σ h) ↔ Q σ h := by
  try unfold Wk
  exact t_nil
theorem wt_cons {t : Tg} {r : Tgs} {d : D} {ds : List D} {Q : Sl → Hh → Prop} : Wk X Q (asTs P call (.cons t r) (d :: ds) σ h) ↔ Wk X (fun σ1 h1 => Wk X Q (asTs P call r ds σ1 h1)) (asT P call t d σ h) := by
  try unfold Wk
  exact t_cons
theorem wt_sub {a i : E} {v : D} {Q : Sl → Hh → Prop} : Wk X Q (asT P call (.sub a i) v σ h) ↔ Wk X (fun d h1 => Wk X (fun k h2 => Wo (fun h3 => Q σ h3) (setD h2 d k v)) (evE P call i σ h1)) (evE P call a σ h) := by
  try unfold Wk
  exact t_sub
theorem wt_fld {a : E} {f : Str} {v : D} {Q : Sl → Hh → Prop} : Wk X Q (asT P call (.fld a f) v σ h) ↔ Wk X (fun d h1 => Wo (fun h2 => Q σ h2) (setFld P h1 d f v)) (evE P call a σ h) := by
  try unfold Wk
  exact t_fld
theorem we_slot {i : Nat} {Q : D → Hh → Prop} : Wk X Q (evE P call (.slot i) σ h) ↔ Wo (fun d => Q d h) (slotD σ i) := by
  try unfold Wk
  exact e_slot
theorem we_lit {d : D} {Q : D → Hh → Prop} : Wk X Q (evE P call (.lit d) σ h) ↔ Q d h := by
  try unfold Wk
  exact e_lit
theorem we_op {o : Op} {a b : E} {Q : D → Hh → Prop} : Wk X Q (evE P call (.op o a b) σ h) ↔ Wk X (fun d h1 => Wk X (fun e h2 => Wp Q (opD o d e h2)) (evE P call b σ h1)) (evE P call a σ h) := by
  try unfold Wk
  exact e_op
theorem we_cmp {o : Cp} {a b : E} {Q : D → Hh → Prop} : Wk X Q (evE P call (.cmp o a b) σ h) ↔ Wk X (fun d h1 => Wk X (fun e h2 => Wk X Q (cmpO P call o d e h2)) (evE P call b σ h1)) (evE P call a σ h) := by
  try unfold Wk
  exact e_cmp
theorem we_chain {o p : Cp} {a b c : E} {Q : D → Hh → Prop} : Wk X Q (evE P call (.chain o p a b c) σ h) ↔ Wk X (fun d h1 => Wk X (fun e h2 => Wf (Wk X (fun g h3 => Wo (fun t => Q (.bl t) h3) (cmpD p h3 e g)) (evE P call c σ h2)) (Q (.bl false) h2) (cmpD o h2 d e)) (evE P call b σ h1)) (evE P call a σ h) := by
  try unfold Wk
  exact e_chain
theorem we_nt {a : E} {Q : D → Hh → Prop} : Wk X Q (evE P call (.nt a) σ h) ↔ Wk X (fun d h1 => Wo (fun b => Q (.bl (!b)) h1) (truth h1 d)) (evE P call a σ h) := by
  try unfold Wk
  exact e_nt
theorem we_neg {a : E} {Q : D → Hh → Prop} : Wk X Q (evE P call (.neg a) σ h) ↔ Wk X (fun d h1 => Wi (fun i => Q (.int (-i)) h1) d) (evE P call a σ h) := by
  unfold Wk
  refine e_neg.trans (ok_fun fun d h1 => ?_)
  cases d <;> exact Iff.rfl
theorem we_an {a b : E} {Q : D → Hh → Prop} : Wk X Q (evE P call (.an a b) σ h) ↔ Wk X (fun d h1 => Wf (Wk X Q (evE P call b σ h1)) (Q d h1) (truth h1 d)) (evE P call a σ h) := by
  try unfold Wk
  exact e_an
theorem we_orr {a b : E} {Q : D → Hh → Prop} : Wk X Q (evE P call (.orr a b) σ h) ↔ Wk X (fun d h1 => Wf (Q d h1) (Wk X Q (evE P call b σ h1)) (truth h1 d)) (evE P call a σ h) := by
  try unfold Wk
  exact e_orr
theorem we_ite {c a b : E} {Q : D → Hh → Prop} : Wk X Q (evE P call (.ite c a b) σ h) ↔ Wk X (fun d h1 => Wf (Wk X Q (evE P call a σ h1)) (Wk X Q (evE P call b σ h1)) (truth h1 d)) (evE P call c σ h) := by
  try unfold Wk
  exact e_ite
theorem we_tup {xs : Es} {Q : D → Hh → Prop} : Wk X Q (evE P call (.tup xs) σ h) ↔ Wk X (fun ds h1 => ds.length ≤ maxLen ∧ Q (.tup ds) h1) (evEs P call xs σ h) := by
  try unfold Wk
  exact e_tup
theorem we_lst {xs : Es} {Q : D → Hh → Prop} : Wk X Q (evE P call (.lst xs) σ h) ↔ Wk X (fun ds h1 => ds.length ≤ maxLen ∧ Q (.ref h1.length) (h1 ++ [.lst ds])) (evEs P call xs σ h) := by
  try unfold Wk
  exact e_lst
theorem we_dct {xs : Es} {Q : D → Hh → Prop} : Wk X Q (evE P call (.dct xs) σ h) ↔ Wk X (fun ds h1 => Wo (fun kvs => Q (.ref h1.length) (h1 ++ [.dct kvs])) (dispD ds)) (evEs P call xs σ h) := by
  try unfold Wk
  exact e_dct
theorem we_sub {a i : E} {Q : D → Hh → Prop} : Wk X Q (evE P call (.sub a i) σ h) ↔ Wk X (fun d h1 => Wk X (fun k h2 => Wo (fun v => Q v h2) (subD h2 d k)) (evE P call i σ h1)) (evE P call a σ h) := by
  try unfold Wk
  exact e_sub
theorem we_slc {a : E} {lo hi : Oe} {Q : D → Hh → Prop} : Wk X Q (evE P call (.slc a lo hi) σ h) ↔ Wk X (fun d h1 => Wk X (fun l h2 => Wk X (fun u h3 => Wp Q (slcD h3 d l u)) (evO P call hi σ h2)) (evO P call lo σ h1)) (evE P call a σ h) := by
  try unfold Wk
  exact e_slc
theorem we_rev {a : E} {Q : D → Hh → Prop} : Wk X Q (evE P call (.rev a) σ h) ↔ Wk X (fun d h1 => Wp Q (revD h1 d)) (evE P call a σ h) := by
  try unfold Wk
  exact e_rev
theorem we_fld {a : E} {f : Str} {Q : D → Hh → Prop} : Wk X Q (evE P call (.fld a f) σ h) ↔ Wk X (fun d h1 => Wo (fun v => Q v h1) (fldD P h1 d f)) (evE P call a σ h) := by
  try unfold Wk
  exact e_fld
theorem we_call {f : Nat} {xs ks : Es} {perm : List Nat} {Q : D → Hh → Prop} : Wk X Q (evE P call (.call f xs ks perm) σ h) ↔ Wk X (fun ds h1 => Wk X (fun gs h2 => Wo (fun es => Wk X Q (call f es h2)) (permD perm (ds ++ gs))) (evEs P call ks σ h1)) (evEs P call xs σ h) := by
  try unfold Wk
  exact e_call
theorem wmk_n {i : Nat} {Q : D → Hh → Prop} : MkQ Q i .non h ↔ Q (.ref i) h := by
  try unfold Wk
  exact mk_n
theorem we_mk {c : Nat} {xs ks : Es} {perm : List Nat} {Q : D → Hh → Prop} : Wk X Q (evE P call (.mk c xs ks perm) σ h) ↔ Wk X (fun ds h1 => Wk X (fun gs h2 => Wo (fun es => Wo (fun k => Wk X (MkQ Q h2.length) (call k.init es (h2 ++ [.obj c []]))) (P.cls[c]?)) (permD perm (.ref h2.length :: (ds ++ gs)))) (evEs P call ks σ h1)) (evEs P call xs σ h) := by
  try unfold Wk
  exact e_mk
theorem we_meth {a : E} {m : Str} {xs ks : Es} {perm : List Nat} {Q : D → Hh → Prop} : Wk X Q (evE P call (.meth a m xs ks perm) σ h) ↔ Wk X (fun d h1 => Wo (fun f => Wk X (fun ds h2 => Wk X (fun gs h3 => Wo (fun es => Wk X Q (call f es h3)) (permD perm (d :: (ds ++ gs)))) (evEs P call ks σ h2)) (evEs P call xs σ h1)) (objM P h1 d m)) (evE P call a σ h) := by
  try unfold Wk
  exact e_meth
theorem we_blt {b : Bt} {xs : Es} {Q : D → Hh → Prop} : Wk X Q (evE P call (.blt b xs) σ h) ↔ Wk X (fun ds h1 => Wp Q (btD b ds h1)) (evEs P call xs σ h) := by
  try unfold Wk
  exact e_blt
theorem we_bm {m : Bm} {a : E} {xs : Es} {Q : D → Hh → Prop} : Wk X Q (evE P call (.bm m a xs) σ h) ↔ Wk X (fun d h1 => Wo (fun k => Wf (Wk X (fun ds h2 => kindD h2 d = some k ∧ Wp Q (bmD m d ds h2)) (evEs P call xs σ h1)) False (some (bmK k m))) (kindD h1 d)) (evE P call a σ h) := by
  try unfold Wk
  exact e_bm
theorem we_isi {a : E} {ts : List Ty} {Q : D → Hh → Prop} : Wk X Q (evE P call (.isi a ts) σ h) ↔ Wk X (fun d h1 => Wo (fun bs => Q (.bl (bs.any id)) h1) (mapO (isiD h1 d) ts)) (evE P call a σ h) := by
  try unfold Wk
  exact e_isi
theorem we_lc {elt : E} {t : Tg} {s : It} {ifs : Es} {own : List Nat} {Q : D → Hh → Prop} : Wk X Q (evE P call (.lc elt t s ifs own) σ h) ↔ Wk X (fun src h1 => Wk X (fun ds h2 => Q (.ref h2.length) (h2 ++ [.lst ds])) (goLc src (Lb P call elt t ifs own σ) src.n 0 [] h1)) (evIt P call s σ h) := by
  try unfold Wk
  exact e_lc
theorem we_lb {elt : E} {t : Tg} {ifs : Es} {own : List Nat} {d : D} {Q : Option D → Hh → Prop} : Wk X Q (Lb P call elt t ifs own σ d h) ↔ Wk X (fun σ' h3 => Wk X (fun b h4 => Wf (Wk X (fun e h5 => Q (some e) h5) (evE P call elt σ' h4)) (Q none h4) (some b)) (evTs P call ifs σ' h3)) (asT P call t d (wipeS σ own) h) := by
  try unfold Wk
  exact e_lb
theorem wes_nil {Q : List D → Hh → Prop} : Wk X Q (evEs P call .nil σ h) ↔ Q [] h := by
  try unfold Wk
  exact es_nil
theorem wes_cons {e : E} {r : Es} {Q : List D → Hh → Prop} : Wk X Q (evEs P call (.cons e r) σ h) ↔ Wk X (fun d h1 => Wk X (fun ds h2 => Q (d :: ds) h2) (evEs P call r σ h1)) (evE P call e σ h) := by
  try unfold Wk
  exact es_cons
theorem wes_star {e : E} {r : Es} {Q : List D → Hh → Prop} : Wk X Q (evEs P call (.star e r) σ h) ↔ Wk X (fun d h1 => Wo (fun xs => Wk X (fun ds h2 => Q (xs ++ ds) h2) (evEs P call r σ h1)) (itemsOf h1 d)) (evE P call e σ h) := by
  try unfold Wk
  exact es_star
theorem wts_nil {Q : Bool → Hh → Prop} : Wk X Q (evTs P call .nil σ h) ↔ Q true h := by
  try unfold Wk
  exact ts_nil
theorem wts_cons {e : E} {r : Es} {Q : Bool → Hh → Prop} : Wk X Q (evTs P call (.cons e r) σ h) ↔ Wk X (fun d h1 => Wf (Wk X Q (evTs P call r σ h1)) (Q false h1) (truth h1 d)) (evE P call e σ h) := by
  try unfold Wk
  exact ts_cons
theorem wo_none {Q : Option Int → Hh → Prop} : Wk X Q (evO P call .none σ h) ↔ Q none h := by
  try unfold Wk
  exact o_none
theorem wint_q {i : Int} {Q : Int → Prop} : Wi Q (.int i) ↔ Q i := by
  try unfold Wk
  exact int_q
theorem wo_some {e : E} {Q : Option Int → Hh → Prop} : Wk X Q (evO P call (.some e) σ h) ↔ Wk X (fun d h1 => Wi (fun i => Q (some i) h1) d) (evE P call e σ h) := by
  try unfold Wk
  exact o_some
theorem wi_e {a : E} {Q : Src → Hh → Prop} : Wk X Q (evIt P call (.e a) σ h) ↔ Wk X (fun d h1 => Wo (fun s => Q s h1) (srcOf h1 d)) (evE P call a σ h) := by
  try unfold Wk
  exact i_e
theorem wi_r1 {a : E} {Q : Src → Hh → Prop} : Wk X Q (evIt P call (.range1 a) σ h) ↔ Wk X (fun d h1 => Wi (fun n => okRange 0 n = true ∧ Q (srcRange 0 n) h1) d) (evE P call a σ h) := by
  try unfold Wk
  exact i_r1
theorem wi_r2 {a b : E} {Q : Src → Hh → Prop} : Wk X Q (evIt P call (.range2 a b) σ h) ↔ Wk X (fun d h1 => Wk X (fun e h2 => Wi (fun m => Wi (fun n => okRange m n = true ∧ Q (srcRange m n) h2) e) d) (evE P call b σ h1)) (evE P call a σ h) := by
  try unfold Wk
  exact i_r2
theorem wi_enum {a : E} {Q : Src → Hh → Prop} : Wk X Q (evIt P call (.enum a) σ h) ↔ Wk X (fun d h1 => Wo (fun s => Q (srcEnum s 0) h1) (srcOf h1 d)) (evE P call a σ h) := by
  try unfold Wk
  exact i_enum
theorem wi_enumS {a k : E} {Q : Src → Hh → Prop} : Wk X Q (evIt P call (.enumS a k) σ h) ↔ Wk X (fun d h1 => Wk X (fun e h2 => Wi (fun k0 => Wo (fun s => Q (srcEnum s k0) h2) (srcOf h2 d)) e) (evE P call k σ h1)) (evE P call a σ h) := by
  try unfold Wk
  exact i_enumS
theorem wi_zip {a b : E} {Q : Src → Hh → Prop} : Wk X Q (evIt P call (.zip a b) σ h) ↔ Wk X (fun d h1 => Wk X (fun e h2 => Wo (fun s => Wo (fun t => Q (srcZip s t) h2) (srcOf h2 e)) (srcOf h2 d)) (evE P call b σ h1)) (evE P call a σ h) := by
  try unfold Wk
  exact i_zip
theorem wnx_n {ds : List D} {Q : Fl × Sl → Hh → Prop} : Nxw X f ds Q (.nx, σ) h ↔ Wk X Q (goForL f ds σ h) := by
  rw [nxw_eq]; try unfold Wk
  exact nx_n
theorem wnx_r {ds : List D} {d : D} {Q : Fl × Sl → Hh → Prop} : Nxw X f ds Q (.rt d, σ) h ↔ Q (.rt d, σ) h := by
  rw [nxw_eq]; try unfold Wk
  exact nx_r
theorem wl_nil {Q : Fl × Sl → Hh → Prop} : Wk X Q (goForL f [] σ h) ↔ Q (.nx, σ) h := by
  try unfold Wk
  exact l_nil
theorem wl_cons {d : D} {ds : List D} {Q : Fl × Sl → Hh → Prop} : Wk X Q (goForL f (d :: ds) σ h) ↔ Wk X (Nxw X f ds Q) (f d σ h) := by
  rw [nxw_eq]; try unfold Wk
  exact l_cons
end
end Qw
end
section
set_option autoImplicit false
set_option Elab.async false
set_option linter.all false
set_option maxRecDepth 8000
set_option maxHeartbeats 4000000
/-! Q: values without cells, their comparison; the leaves of the walk. -/
namespace Q
open PySem
mutual
/-- no cells within -/
def D.pur : D → Bool
  | .tup xs => D.purs xs
  | .ref _ => false
  | _ => true
def D.purs : List D → Bool
  | [] => true
  | x :: xs => D.pur x && D.purs xs
end
mutual
def D.dep : D → Nat
  | .tup xs => D.deps xs + 1
  | _ => 0
def D.deps : List D → Nat
  | [] => 0
  | x :: xs => max (D.dep x) (D.deps xs)
end
mutual
def D.py : D → PyData
  | .non => .none
  | .bl b => .bool b
  | .int i => .int i
  | .str x => .str x
  | .tup xs => .tuple (D.pys xs)
  | .ref _ => .none
def D.pys : List D → List PyData
  | [] => []
  | x :: xs => D.py x :: D.pys xs
end
end Q
namespace Qw
open PySem Q
def okN (n : Nat) (d : D) : Bool := d.pur && decide (d.dep ≤ n)
def okNs (n : Nat) (xs : List D) : Bool := D.purs xs && decide (D.deps xs ≤ n)
section
variable {n : Nat}
theorem ok_non : okN n .non = true := by simp [okN, D.pur, D.dep]
theorem ok_bl {b : Bool} : okN n (.bl b) = true := by simp [okN, D.pur, D.dep]
theorem ok_int {i : Int} : okN n (.int i) = true := by simp [okN, D.pur, D.dep]
theorem ok_str {x : Str} : okN n (.str x) = true := by simp [okN, D.pur, D.dep]
theorem ok_tup {xs : List D} : okN (n + 1) (.tup xs) = okNs n xs := by simp [okN, okNs, D.pur, D.dep]
theorem oks_nil : okNs n [] = true := by simp [okNs, D.purs, D.deps]
theorem oks_cons {x : D} {xs : List D} : okNs n (x :: xs) = (okN n x && okNs n xs) := by
  simp only [okNs, okN, D.purs, D.deps, Nat.max_le, Bool.decide_and]
  cases D.pur x <;> cases D.purs xs <;> simp
theorem oks_all {xs : List D} : okNs n xs = true ↔ ∀ x ∈ xs, okN n x = true := by
  induction xs with
  | nil => simp [oks_nil]
  | cons x xs ih => simp [oks_cons, ih]
theorem oks_app {xs ys : List D} : okNs n (xs ++ ys) = (okNs n xs && okNs n ys) := by
  induction xs with
  | nil => simp [oks_nil]
  | cons x xs ih => simp [oks_cons, ih, Bool.and_assoc]
theorem okN_mono {m : Nat} {d : D} (l : n ≤ m) (e : okN n d = true) : okN m d = true := by
  simp only [okN, Bool.and_eq_true, decide_eq_true_eq] at e ⊢
  exact ⟨e.1, by omega⟩
theorem okNs_mono {m : Nat} {xs : List D} (l : n ≤ m) (e : okNs n xs = true) : okNs m xs = true := by
  simp only [okNs, Bool.and_eq_true, decide_eq_true_eq] at e ⊢
  exact ⟨e.1, by omega⟩
end
mutual
theorem toPy_pur {h : Hh} : ∀ (d : D) (n : Nat), d.pur = true → d.dep ≤ n → toPy h n d = some d.py
  | .non, n, _, _ => by cases n <;> rfl
  | .bl _, n, _, _ => by cases n <;> rfl
  | .int _, n, _, _ => by cases n <;> rfl
  | .str _, n, _, _ => by cases n <;> rfl
  | .tup xs, n, p, l => by
    cases n with
    | zero => simp [D.dep] at l
    | succ n =>
      simp only [toPy]
      rw [toPys_pur xs n (by simpa [D.pur] using p) (by simpa [D.dep] using l)]
      simp [D.py]
  | .ref _, n, p, _ => by simp [D.pur] at p
theorem toPys_pur {h : Hh} : ∀ (xs : List D) (n : Nat), D.purs xs = true → D.deps xs ≤ n → mapO (toPy h n) xs = some (D.pys xs)
  | [], n, _, _ => rfl
  | x :: xs, n, p, l => by
    simp only [D.purs, Bool.and_eq_true] at p
    simp only [D.deps, Nat.max_le] at l
    simp only [mapO, toPy_pur x n p.1 l.1, toPys_pur xs n p.2 l.2, D.pys]
end
mutual
theorem can_pur : ∀ d : D, d.pur = true → d.py.plain = true ∧ d.py.depth = d.dep
  | .non, _ => by simp [D.py, PyData.plain, PyData.depth, D.dep]
  | .bl _, _ => by simp [D.py, PyData.plain, PyData.depth, D.dep]
  | .int _, _ => by simp [D.py, PyData.plain, PyData.depth, D.dep]
  | .str x, p => by simp [D.py, PyData.plain, PyData.depth, D.dep]
  | .tup xs, p => by
    have := can_purs xs (by simpa [D.pur] using p)
    simp [D.py, PyData.plain, PyData.depth, D.dep, this]
  | .ref _, p => by simp [D.pur] at p
theorem can_purs : ∀ xs : List D, D.purs xs = true → PyData.plainAll (D.pys xs) = true ∧ PyData.depthAll (D.pys xs) = D.deps xs
  | [], _ => by simp [D.pys, PyData.plainAll, PyData.depthAll, D.deps]
  | x :: xs, p => by
    simp only [D.purs, Bool.and_eq_true] at p
    have a := can_pur x p.1
    have b := can_purs xs p.2
    simp [D.pys, PyData.plainAll, PyData.depthAll, D.deps, a, b]
end
theorem toPy_ok {h : Hh} {n : Nat} {d : D} (o : okN n d = true) : toPy h n d = some d.py := by
  simp only [okN, Bool.and_eq_true, decide_eq_true_eq] at o
  exact toPy_pur d n o.1 o.2
theorem toPys_ok {h : Hh} {n : Nat} {xs : List D} (o : okNs n xs = true) : mapO (toPy h n) xs = some (D.pys xs) := by
  simp only [okNs, Bool.and_eq_true, decide_eq_true_eq] at o
  exact toPys_pur xs n o.1 o.2
theorem shaped_ok {n : Nat} {d : D} (l : n ≤ 64) (o : okN n d = true) : plainD d.py = true := by
  simp only [okN, Bool.and_eq_true, decide_eq_true_eq] at o
  have := can_pur d o.1
  simp only [plainD, this.1, this.2, Bool.true_and, decide_eq_true_eq]
  omega
theorem shapeds_ok {n : Nat} {xs : List D} (l : n ≤ 63) (o : okNs n xs = true) : plainD (.list (D.pys xs)) = true := by
  simp only [okNs, Bool.and_eq_true, decide_eq_true_eq] at o
  have := can_purs xs o.1
  simp only [plainD, PyData.plain, PyData.depth, this.1, this.2, Bool.true_and, decide_eq_true_eq]
  omega
/-- a list of values without cells -/
theorem toPy_cell {h : Hh} {n i : Nat} {xs : List D} (e : lstOf h (.ref i) = some xs) (o : okNs n xs = true) : toPy h (n + 1) (.ref i) = some (.list (D.pys xs)) := by
  simp only [lstOf] at e
  simp only [toPy]
  match hc : h[i]?, e with
  | some (.lst ys), e => cases e; dsimp only; rw [toPys_ok o]; rfl
  | some (.ro ys), e => cases e; dsimp only; rw [toPys_ok o]; rfl
/-- == -/
def peq (a b : D) : Bool := PyData.eqv a.py b.py
def peqs (a b : List D) : Bool := PyData.eqvAll (D.pys a) (D.pys b)
section
theorem peq_int {i j : Int} : peq (.int i) (.int j) = decide (i = j) := by
  simp only [peq, D.py, PyData.eqv]; exact Bool.eq_iff_iff.mpr (by simp)
theorem peq_str {x y : Str} : peq (.str x) (.str y) = decide (x = y) := by
  simp only [peq, D.py, PyData.eqv]; exact Bool.eq_iff_iff.mpr (by simp)
theorem peq_bl {x y : Bool} : peq (.bl x) (.bl y) = (x == y) := by simp only [peq, D.py, PyData.eqv]
theorem peq_tup {xs ys : List D} : peq (.tup xs) (.tup ys) = peqs xs ys := by simp only [peq, peqs, D.py, PyData.eqv]
theorem peq_non : peq .non .non = true := by simp only [peq, D.py, PyData.eqv]
theorem peqs_nil : peqs [] [] = true := by simp only [peqs, D.pys, PyData.eqvAll]
theorem peqs_cons {x y : D} {xs ys : List D} : peqs (x :: xs) (y :: ys) = (peq x y && peqs xs ys) := by simp only [peqs, peq, D.pys, PyData.eqvAll]
theorem peqs_nc {y : D} {ys : List D} : peqs [] (y :: ys) = false := by simp only [peqs, D.pys, PyData.eqvAll]
theorem peqs_cn {y : D} {ys : List D} : peqs (y :: ys) [] = false := by simp only [peqs, D.pys, PyData.eqvAll]
theorem peqs_len : ∀ {xs ys : List D}, peqs xs ys = true → xs.length = ys.length
  | [], [], _ => rfl
  | [], y :: ys, e => by simp [peqs_nc] at e
  | x :: xs, [], e => by simp [peqs_cn] at e
  | x :: xs, y :: ys, e => by
    simp only [peqs_cons, Bool.and_eq_true] at e
    simp [peqs_len e.2]
theorem peqs_map {α : Type} [DecidableEq α] {f : α → D} (hf : ∀ a b, peq (f a) (f b) = decide (a = b)) : ∀ {xs ys : List α}, peqs (xs.map f) (ys.map f) = decide (xs = ys)
  | [], [] => by simp [peqs_nil]
  | [], y :: ys => by simp [peqs_nc]
  | x :: xs, [] => by simp [peqs_cn]
  | x :: xs, y :: ys => by
    simp only [List.map_cons, peqs_cons, hf, peqs_map hf]
    exact Bool.eq_iff_iff.mpr (by simp)
end
mutual
theorem peq_self : ∀ d : D, peq d d = true
  | .non => peq_non
  | .bl b => by simp [peq_bl]
  | .int i => by simp [peq_int]
  | .str x => by simp [peq_str]
  | .tup xs => by rw [peq_tup]; exact peqs_self xs
  | .ref i => by simp only [peq, D.py, PyData.eqv]
theorem peqs_self : ∀ xs : List D, peqs xs xs = true
  | [] => peqs_nil
  | x :: xs => by rw [peqs_cons, peq_self x, peqs_self xs]; rfl
end
section
variable {P : Pg} {call : Call} {h : Hh}
theorem eqD_ok {d e : D} (a : okN 60 d = true) (b : okN 60 e = true) : eqD h d e = some (peq d e) := by
  simp only [eqD, deep, toPy_ok a, toPy_ok b, shaped_ok (by omega) a, shaped_ok (by omega) b, Bool.and_true, if_true]
  rfl
theorem eqD_cells {i j : Nat} {xs ys : List D} (a : lstOf h (.ref i) = some xs) (b : lstOf h (.ref j) = some ys) (p : okNs 59 xs = true) (q : okNs 59 ys = true) : eqD h (.ref i) (.ref j) = some (peqs xs ys) := by
  simp only [eqD, deep, toPy_cell a p, toPy_cell b q, shapeds_ok (by omega) p, shapeds_ok (by omega) q, Bool.and_true, if_true, peqs, PyData.eqv]
theorem not_obj {i : Nat} {xs : List D} (a : lstOf h (.ref i) = some xs) : isObj h (.ref i) = false := by
  simp only [lstOf] at a
  simp only [isObj]
  match hc : h[i]?, a with
  | some (.lst ys), _ => rfl
  | some (.ro ys), _ => rfl
theorem obj_ok {n : Nat} {d : D} (a : okN n d = true) : isObj h d = false := by cases d <;> first | rfl | simp [okN, D.pur] at a
theorem cmpO_no {o : Cp} {d e : D} (a : isObj h d = false) : cmpO P call o d e h = lift ((cmpD o h d e).map .bl) h := by
  unfold cmpO
  rw [a]
  cases o <;> rfl
theorem c_eq {d e : D} (a : okN 60 d = true) (b : okN 60 e = true) : cmpO P call .eq d e h = .ok (.bl (peq d e)) h := by
  rw [cmpO_no (obj_ok a)]; simp only [cmpD, eqD_ok a b]; rfl
theorem c_ne {d e : D} (a : okN 60 d = true) (b : okN 60 e = true) : cmpO P call .ne d e h = .ok (.bl (!peq d e)) h := by
  rw [cmpO_no (obj_ok a)]; simp only [cmpD, eqD_ok a b]; rfl
theorem c_eqI {i j : Int} : cmpO P call .eq (.int i) (.int j) h = .ok (.bl (decide (i = j))) h := by rw [c_eq ok_int ok_int, peq_int]
theorem c_neI {i j : Int} : cmpO P call .ne (.int i) (.int j) h = .ok (.bl (!decide (i = j))) h := by rw [c_ne ok_int ok_int, peq_int]
theorem c_eqC {i j : Nat} {xs ys : List D} (a : lstOf h (.ref i) = some xs) (b : lstOf h (.ref j) = some ys) (p : okNs 59 xs = true) (q : okNs 59 ys = true) : cmpO P call .eq (.ref i) (.ref j) h = .ok (.bl (peqs xs ys)) h := by
  rw [cmpO_no (not_obj a)]; simp only [cmpD, eqD_cells a b p q]; rfl
theorem c_neC {i j : Nat} {xs ys : List D} (a : lstOf h (.ref i) = some xs) (b : lstOf h (.ref j) = some ys) (p : okNs 59 xs = true) (q : okNs 59 ys = true) : cmpO P call .ne (.ref i) (.ref j) h = .ok (.bl (!peqs xs ys)) h := by
  rw [cmpO_no (not_obj a)]; simp only [cmpD, eqD_cells a b p q]; rfl
theorem ordI {f : PyData → PyData → Bool} {i j : Int} : ordD f h (.int i) (.int j) = some (f (.int i) (.int j)) := by
  have s : ∀ i : Int, plainD (.int i) = true := fun i => rfl
  unfold ordD
  simp only [toPy, s]
  rw [if_pos]
  simp [W.alike, isNone]
theorem c_ltI {i j : Int} : cmpO P call .lt (.int i) (.int j) h = .ok (.bl (decide (i < j))) h := by
  rw [cmpO_no rfl]; simp only [cmpD, ordI, W.dataLt_int]; rfl
theorem c_gtI {i j : Int} : cmpO P call .gt (.int i) (.int j) h = .ok (.bl (decide (j < i))) h := by
  rw [cmpO_no rfl]; simp only [cmpD, ordI, W.dataLt_int]; rfl
theorem c_leI {i j : Int} : cmpO P call .le (.int i) (.int j) h = .ok (.bl (decide (i ≤ j))) h := by
  rw [cmpO_no rfl]; simp only [cmpD, ordI, W.dataLt_int, ← decide_not, Int.not_lt]; rfl
theorem c_geI {i j : Int} : cmpO P call .ge (.int i) (.int j) h = .ok (.bl (decide (j ≤ i))) h := by
  rw [cmpO_no rfl]; simp only [cmpD, ordI, W.dataLt_int, ← decide_not, Int.not_lt]; rfl
theorem d_ltI {i j : Int} : cmpD .lt h (.int i) (.int j) = some (decide (i < j)) := by simp only [cmpD, ordI, W.dataLt_int]
theorem d_gtI {i j : Int} : cmpD .gt h (.int i) (.int j) = some (decide (j < i)) := by simp only [cmpD, ordI, W.dataLt_int]
theorem d_leI {i j : Int} : cmpD .le h (.int i) (.int j) = some (decide (i ≤ j)) := by simp only [cmpD, ordI, W.dataLt_int, ← decide_not, Int.not_lt]
theorem d_geI {i j : Int} : cmpD .ge h (.int i) (.int j) = some (decide (j ≤ i)) := by simp only [cmpD, ordI, W.dataLt_int, ← decide_not, Int.not_lt]
theorem c_isN {d : D} : cmpO P call .isN d .non h = .ok (.bl (decide (d = .non))) h := by unfold cmpO; cases isObj h d <;> rfl
theorem c_isntN {d : D} : cmpO P call .isntN d .non h = .ok (.bl (!decide (d = .non))) h := by unfold cmpO; cases isObj h d <;> rfl
theorem c_inC {c : Nat} {y : Str} : cmpO P call .inn (.str ⟨#[c]⟩) (.str y) h = .ok (.bl (decide (c ∈ y.cps.toList))) h := by
  rw [cmpO_no rfl]; simp only [cmpD, inD, StrLaws.found_one]; rfl
theorem c_ninC {c : Nat} {y : Str} : cmpO P call .notin (.str ⟨#[c]⟩) (.str y) h = .ok (.bl (!decide (c ∈ y.cps.toList))) h := by
  rw [cmpO_no rfl]; simp only [cmpD, inD, StrLaws.found_one]; rfl
end
/-! ### leaves -/
section
variable {α : Type} {X : Ex} {h : Hh}
theorem wk_ok {a : α} {Q : α → Hh → Prop} : Wk X Q (.ok a h) ↔ Q a h := by unfold Wk; exact Iff.rfl
theorem wo_s {a : α} {Q : α → Prop} : Wo Q (some a) ↔ Q a := Iff.rfl
theorem wp_s {d : D} {Q : D → Hh → Prop} : Wp Q (some (d, h)) ↔ Q d h := Iff.rfl
theorem wi_i {i : Int} {Q : Int → Prop} : Wi Q (.int i) ↔ Q i := Iff.rfl
theorem v_slot0 {d : D} {σ : Sl} {Q : D → Prop} : Wo Q (slotD (some d :: σ) 0) ↔ Q d := Iff.rfl
theorem v_slotS {x : Option D} {σ : Sl} {n : Nat} {Q : D → Prop} : Wo Q (slotD (x :: σ) (n + 1)) ↔ Wo Q (slotD σ n) := Iff.rfl
/-- the slots with one stored -/
def Sset (Q : Sl → Prop) (acc σ : Sl) (n : Nat) (d : Option D) : Prop := Q (acc.reverse ++ σ.set n d)
def Srev (Q : Sl → Prop) (acc σ : Sl) : Prop := Q (acc.reverse ++ σ)
def Swipe (Q : Sl → Prop) (σ : Sl) (vs : List Nat) : Prop := Q (wipeS σ vs)
theorem ss_0 {Q : Sl → Prop} {acc σ : Sl} {x d : Option D} : Sset Q acc (x :: σ) 0 d ↔ Srev Q acc (d :: σ) := Iff.rfl
theorem ss_S {Q : Sl → Prop} {acc σ : Sl} {x d : Option D} {n : Nat} : Sset Q acc (x :: σ) (n + 1) d ↔ Sset Q (x :: acc) σ n d := by simp [Sset]
theorem sr_n {Q : Sl → Prop} {σ : Sl} : Srev Q [] σ ↔ Q σ := Iff.rfl
theorem sr_c {Q : Sl → Prop} {acc σ : Sl} {x : Option D} : Srev Q (x :: acc) σ ↔ Srev Q acc (x :: σ) := by simp [Srev]
theorem sw_n {Q : Sl → Prop} {σ : Sl} : Swipe Q σ [] ↔ Q σ := Iff.rfl
theorem sw_c {Q : Sl → Prop} {σ : Sl} {v : Nat} {vs : List Nat} : Swipe Q σ (v :: vs) ↔ Swipe (fun σ' => Sset Q [] σ' v none) σ vs := Iff.rfl
theorem x_name {P : Pg} {call : Call} {σ : Sl} {Q : Sl → Hh → Prop} {i : Nat} {d : D} : Wk X Q (asT P call (.name i) d σ h) ↔ Sset (fun σ' => Q σ' h) [] σ i (some d) := by unfold Wk; exact t_name
theorem x_lb {P : Pg} {call : Call} {σ : Sl} {elt : E} {t : Tg} {ifs : Es} {own : List Nat} {d : D} {Q : Option D → Hh → Prop} : Wk X Q (Lb P call elt t ifs own σ d h) ↔ Swipe (fun σ0 => Wk X (fun σ' h3 => Wk X (fun b h4 => Wf (Wk X (fun e h5 => Q (some e) h5) (evE P call elt σ' h4)) (Q none h4) (some b)) (evTs P call ifs σ' h3)) (asT P call t d σ0 h)) σ own := by unfold Wk; exact e_lb
theorem x_aug {P : Pg} {call : Call} {σ : Sl} {i : Nat} {o : Op} {e : E} {Q : Fl × Sl → Hh → Prop} : Wk X Q (evS P call (.aug i o e) σ h) ↔ Wo (fun d => Wk (X.at σ) (fun x h1 => Wp (fun y h2 => Sset (fun σ' => Q (.nx, σ') h2) [] σ i (some y)) (opD o d x h1)) (evE P call e σ h)) (slotD σ i) := by
  unfold Wk
  refine s_aug.trans ?_
  show _ ↔ Hk _ _
  cases slotD σ i with
  | none => exact Iff.rfl
  | some d => exact ok_fun fun x h1 => by cases opD o d x h1 <;> exact Iff.rfl
theorem w_imm {f : D → Sl → Hh → Res (Fl × Sl)} {σ : Sl} {Q : Fl × Sl → Hh → Prop} {xs : List D} : Wk X Q (goFor (srcImm xs) f (srcImm xs).n 0 σ h) ↔ Wk X Q (goForL f xs σ h) := by unfold Wk; rw [l_imm]
theorem w_range {f : D → Sl → Hh → Res (Fl × Sl)} {σ : Sl} {Q : Fl × Sl → Hh → Prop} {lo hi : Int} : Wk X Q (goFor (srcRange lo hi) f (srcRange lo hi).n 0 σ h) ↔ Wk X Q (goForL f (rangeL lo hi) σ h) := by unfold Wk; rw [l_range]
theorem w_enum {f : D → Sl → Hh → Res (Fl × Sl)} {σ : Sl} {Q : Fl × Sl → Hh → Prop} {xs : List D} {k : Int} : Wk X Q (goFor (srcEnum (srcImm xs) k) f (srcEnum (srcImm xs) k).n 0 σ h) ↔ Wk X Q (goForL f (enumL k xs) σ h) := by unfold Wk; rw [l_enum]
theorem w_zip {f : D → Sl → Hh → Res (Fl × Sl)} {σ : Sl} {Q : Fl × Sl → Hh → Prop} {xs ys : List D} : Wk X Q (goFor (srcZip (srcImm xs) (srcImm ys)) f (srcZip (srcImm xs) (srcImm ys)).n 0 σ h) ↔ Wk X Q (goForL f (zipL xs ys) σ h) := by unfold Wk; rw [l_zip]
theorem v_opI {o : Op} {i j : Int} {Q : D → Hh → Prop} : Wp Q (opD o (.int i) (.int j) h) ↔ Wo (fun k => Q (.int k) h) (opI o i j) := by
  show Hk _ _ ↔ Hk _ _
  simp only [opD]
  cases opI o i j <;> exact Iff.rfl
theorem v_add {i j : Int} {Q : Int → Prop} : Wo Q (opI .add i j) ↔ Q (i + j) := Iff.rfl
theorem v_sub {i j : Int} {Q : Int → Prop} : Wo Q (opI .sub i j) ↔ Q (i - j) := Iff.rfl
theorem o_mulL {i j : Int} (e : small i = true) : opI .mul i j = some (i * j) := by simp [opI, e]
theorem o_mulR {i j : Int} (e : small j = true) : opI .mul i j = some (i * j) := by simp [opI, e]
theorem o_mod {i j : Int} (e : j ≠ 0) : opI .mod i j = some (i.fmod j) := by simp [opI, e]
theorem o_div {i j : Int} (e : j ≠ 0) (l : j.natAbs < 1073741824) : opI .fdiv i j = some (i.fdiv j) := by simp [opI, e, l]
theorem o_tadd {xs ys : List D} (l : xs.length + ys.length ≤ maxLen) : opD .add (.tup xs) (.tup ys) h = some (.tup (xs ++ ys), h) := by simp [opD, l]
theorem v_tr {b : Bool} {A B : Prop} : Wf A B (truth h (.bl b)) ↔ Wf A B (some b) := Iff.rfl
theorem v_trO {b : Bool} {Q : Bool → Prop} : Wo Q (truth h (.bl b)) ↔ Q b := Iff.rfl
theorem wf_t {A B : Prop} : Wf A B (some true) ↔ A := Iff.rfl
theorem wf_f {A B : Prop} : Wf A B (some false) ↔ B := Iff.rfl
theorem wf_i {b : Bool} {A B : Prop} (h1 : b = true → A) (h2 : b = false → B) : Wf A B (some b) := brk_i h1 h2
theorem wf_d {p : Prop} [Decidable p] {A B : Prop} (h1 : p → A) (h2 : ¬p → B) : Wf A B (some (decide p)) := brk_d h1 h2
theorem v_ix0 {a : D} {r : List D} {Q : D → Prop} : Wo Q (subD h (.tup (a :: r)) (.int 0)) ↔ Q a := by
  show Hk _ _ ↔ _
  have : subD h (.tup (a :: r)) (.int 0) = some a := by simp [subD, ixL, L2.atI, L2.ixN]
  rw [this]; exact Iff.rfl
theorem sub_nat {xs : List D} {k : Nat} : subD h (.tup xs) (.int (k : Nat)) = xs[k]? := by
  simp only [subD, ixL, L2.atI, L2.ixN]
  by_cases l : k < xs.length
  · rw [if_pos (by omega), if_pos (by omega)]; simp
  · rw [if_pos (by omega), if_neg (by omega)]; simp; omega
theorem v_ixn {xs : List D} {k : Nat} {Q : D → Prop} : Wo Q (subD h (.tup xs) (.int (k : Nat))) ↔ Wo Q (xs[k]?) := by rw [sub_nat]
theorem v_ix1 {a b : D} {r : List D} {Q : D → Prop} : Wo Q (subD h (.tup (a :: b :: r)) (.int 1)) ↔ Q b := v_ixn (k := 1)
theorem v_ix2 {a b c : D} {r : List D} {Q : D → Prop} : Wo Q (subD h (.tup (a :: b :: c :: r)) (.int 2)) ↔ Q c := v_ixn (k := 2)
theorem v_ix3 {a b c d : D} {r : List D} {Q : D → Prop} : Wo Q (subD h (.tup (a :: b :: c :: d :: r)) (.int 3)) ↔ Q d := v_ixn (k := 3)
theorem v_ix4 {a b c d e : D} {r : List D} {Q : D → Prop} : Wo Q (subD h (.tup (a :: b :: c :: d :: e :: r)) (.int 4)) ↔ Q e := v_ixn (k := 4)
theorem v_ix5 {a b c d e f : D} {r : List D} {Q : D → Prop} : Wo Q (subD h (.tup (a :: b :: c :: d :: e :: f :: r)) (.int 5)) ↔ Q f := v_ixn (k := 5)
theorem v_src {xs : List D} {Q : Src → Prop} : Wo Q (srcOf h (.tup xs)) ↔ Q (srcImm xs) := Iff.rfl
theorem v_kindS {x : Str} {Q : Kd → Prop} : Wo Q (kindD h (.str x)) ↔ Q .str := Iff.rfl
theorem kindS {x : Str} : (kindD h (.str x) = some .str) = True := eq_true rfl
theorem wb_join {A B : Prop} : Wf A B (some (bmK .str .join)) ↔ A := Iff.rfl
theorem wb_app {A B : Prop} : Wf A B (some (bmK .lst .append)) ↔ A := Iff.rfl
theorem wb_pop {A B : Prop} : Wf A B (some (bmK .lst .pop)) ↔ A := Iff.rfl
theorem wb_ext {A B : Prop} : Wf A B (some (bmK .lst .extend)) ↔ A := Iff.rfl
theorem v_disp0 {Q : List (D × D) → Prop} : Wo Q (dispD []) ↔ Q [] := Iff.rfl
/-! types -/
def isI : D → Bool
  | .int _ => true
  | .bl _ => true
  | _ => false
def isB : D → Bool
  | .bl _ => true
  | _ => false
def isS : D → Bool
  | .str _ => true
  | _ => false
def isT : D → Bool
  | .tup _ => true
  | _ => false
theorem x_isi {P : Pg} {call : Call} {σ : Sl} {a : E} {t : Ty} {Q : D → Hh → Prop} : Wk X Q (evE P call (.isi a [t]) σ h) ↔ Wk X (fun d h1 => Wo (fun b => Q (.bl b) h1) (isiD h1 d t)) (evE P call a σ h) := by
  unfold Wk
  refine e_isi.trans (ok_fun fun d h1 => ?_)
  show Hk _ _ ↔ Hk _ _
  simp only [mapO]
  cases isiD h1 d t with
  | none => exact Iff.rfl
  | some b => simp [Hk]
theorem v_isI {d : D} {Q : Bool → Prop} : Wo Q (isiD h d .int) ↔ Q (isI d) := by cases d <;> exact Iff.rfl
theorem v_isB {d : D} {Q : Bool → Prop} : Wo Q (isiD h d .bool) ↔ Q (isB d) := by cases d <;> exact Iff.rfl
theorem v_isS {d : D} {Q : Bool → Prop} : Wo Q (isiD h d .str) ↔ Q (isS d) := by cases d <;> exact Iff.rfl
theorem v_isT {d : D} {Q : Bool → Prop} : Wo Q (isiD h d .tuple) ↔ Q (isT d) := by cases d <;> exact Iff.rfl
theorem v_lenT {xs : List D} {Q : D → Hh → Prop} : Wp Q (btD .len [.tup xs] h) ↔ Q (.int xs.length) h := Iff.rfl
theorem v_int {i : Int} {Q : D → Hh → Prop} : Wp Q (btD .int [.int i] h) ↔ Q (.int i) h := Iff.rfl
theorem v_max2 {i j : Int} {Q : D → Hh → Prop} : Wp Q (btD .max2 [.int i, .int j] h) ↔ Q (.int (if j > i then j else i)) h := Iff.rfl
/-- a list is made and used at once -/
theorem lst_new {xs : List D} : lstOf (h ++ [.lst xs]) (.ref h.length) = some xs := by simp [lstOf]
def allB : List D → Bool
  | [] => true
  | .bl b :: r => b && allB r
  | _ :: _ => false
theorem bools_map {α : Type} {f : α → Bool} : ∀ {xs : List α}, boolsOf (xs.map fun x => .bl (f x)) = some (xs.map f)
  | [] => rfl
  | x :: xs => by simp only [List.map_cons, boolsOf, bools_map, Option.map_some]
theorem v_all {α : Type} {f : α → Bool} {xs : List α} {Q : D → Hh → Prop} : Wp Q (btD .all [.ref h.length] (h ++ [.lst (xs.map fun x => .bl (f x))])) ↔ Q (.bl (xs.all f)) (h ++ [.lst (xs.map fun x => .bl (f x))]) := by
  simp only [btD, lst_new, Option.bind_some, bools_map, Option.map_some, List.all_map]
  exact Iff.rfl
theorem v_any {α : Type} {f : α → Bool} {xs : List α} {Q : D → Hh → Prop} : Wp Q (btD .any [.ref h.length] (h ++ [.lst (xs.map fun x => .bl (f x))])) ↔ Q (.bl (xs.any f)) (h ++ [.lst (xs.map fun x => .bl (f x))]) := by
  simp only [btD, lst_new, Option.bind_some, bools_map, Option.map_some, List.any_map]
  exact Iff.rfl
theorem v_tupL {xs : List D} {Q : D → Hh → Prop} : Wp Q (btD .tuple [.ref h.length] (h ++ [.lst xs])) ↔ Q (.tup xs) (h ++ [.lst xs]) := by
  simp only [btD, lst_new, Option.map_some]
  exact Iff.rfl
/-! ### the heap grows -/
/-- the cells stay, but those that are told -/
def Same (h h1 : Hh) (out : List Nat) : Prop := h.length ≤ h1.length ∧ ∀ k, k < h.length → k ∉ out → h1[k]? = h[k]?
theorem Same.refl {h : Hh} {out : List Nat} : Same h h out := ⟨Nat.le_refl _, fun _ _ _ => rfl⟩
theorem Same.trans {h h1 h2 : Hh} {out : List Nat} (a : Same h h1 out) (b : Same h1 h2 out) : Same h h2 out := ⟨Nat.le_trans a.1 b.1, fun k hk n => (b.2 k (Nat.lt_of_lt_of_le hk a.1) n).trans (a.2 k hk n)⟩
theorem Same.get {h h1 : Hh} {out : List Nat} {i : Nat} {c : C} (s : Same h h1 out) (e : h[i]? = some c) (n : i ∉ out) : h1[i]? = some c := (s.2 i (List.getElem?_eq_some_iff.mp e).1 n).trans e
theorem Same.wide {h h1 : Hh} {out : List Nat} (s : Same h h1 []) : Same h h1 out := ⟨s.1, fun k hk _ => s.2 k hk (by simp)⟩
theorem Same.get0 {h h1 : Hh} {i : Nat} {c : C} (s : Same h h1 []) (e : h[i]? = some c) : h1[i]? = some c := s.get e (by simp)
theorem same_new {h : Hh} {c : C} : Same h (h ++ [c]) [] := ⟨by simp, fun k hk _ => List.getElem?_append_left hk⟩
theorem Same.new {h h1 : Hh} {out : List Nat} {c : C} (s : Same h h1 out) : Same h (h1 ++ [c]) out := s.trans same_new.wide
theorem Same.set {h h1 : Hh} {out : List Nat} {i : Nat} {c : C} (s : Same h h1 out) (n : i ∈ out ∨ h.length ≤ i) : Same h (h1.set i c) out := by
  refine ⟨by rw [List.length_set]; exact s.1, fun k hk nk => ?_⟩
  rw [List.getElem?_set_ne (by rintro rfl; exact n.elim nk (by omega))]
  exact s.2 k hk nk
/-- what a cell past the old ones does, the old ones do not see -/
theorem Same.drop {h h1 : Hh} {out : List Nat} {i : Nat} (s : Same h h1 (i :: out)) (n : h.length ≤ i) : Same h h1 out := ⟨s.1, fun k hk nk => s.2 k hk (by simp only [List.mem_cons, not_or]; exact ⟨by omega, nk⟩)⟩
/-! ### comprehensions without effects -/
theorem lc_pure {X : Ex} {s : Src} {xs : List D} {f : D → Hh → Res (Option D)} {g : D → Option D} {h : Hh} {Q : List D → Hh → Prop} (hn : s.n = xs.length) (hm : xs.length < maxLen)
    (ha : ∀ (h1 : Hh) (k : Nat), k < xs.length → Same h h1 [] → s.at_ h1 k = xs[k]?) (hf : ∀ h1 : Hh, Same h h1 [] → s.fin h1 = true)
    (step : ∀ (x : D) (h1 : Hh) (Q1 : Option D → Hh → Prop), x ∈ xs → Same h h1 [] → (∀ h2, Same h1 h2 [] → Q1 (g x) h2) → Wk NoE Q1 (f x h1))
    (q : ∀ h1, Same h h1 [] → Q (xs.filterMap g) h1) : Wk X Q (goLc s f s.n 0 [] h) := by
  unfold Wk at step ⊢
  refine ok_lcS (xs := xs) hn (fun a r acc h1 => Same h h1 [] ∧ acc = a.filterMap g) ?_ ?_ ?_ ⟨Same.refl, rfl⟩
  · rintro a r acc h1 ⟨s1, rfl⟩ e
    refine ⟨fun x r' er => ?_, fun _ => hf h1 s1⟩
    subst er
    rw [ha h1 _ (by rw [← e]; simp) s1, ← e, List.getElem?_append_right (Nat.le_refl _), Nat.sub_self]
    rfl
  · rintro a x r acc h1 e ⟨s1, rfl⟩
    refine step x h1 _ (by rw [← e]; simp) s1 fun h2 s2 => ?_
    cases hg : g x with
    | none => exact ⟨s1.trans s2, by simp [List.filterMap_append, hg]⟩
    | some y => exact ⟨s1.trans s2, by simp [List.filterMap_append, hg]⟩
  · rintro acc h1 ⟨s1, rfl⟩
    exact ⟨Nat.lt_of_le_of_lt (List.length_filterMap_le _ _) hm, q h1 s1⟩
/-- the values in the parameters' order: step by step -/
def Wperm (Q : List D → Prop) (perm : List Nat) (acc ds : List D) : Prop := Hk (permD perm ds) fun es => Q (acc.reverse ++ es)
theorem v_perm {Q : List D → Prop} {perm : List Nat} {ds : List D} : Wo Q (permD perm ds) ↔ Wperm Q perm [] ds := Iff.rfl
def Wnth (Q : D → Prop) (n : Nat) (ds : List D) : Prop := Hk (ds[n]?) Q
theorem wn_0 {Q : D → Prop} {d : D} {ds : List D} : Wnth Q 0 (d :: ds) ↔ Q d := Iff.rfl
theorem wn_S {Q : D → Prop} {n : Nat} {d : D} {ds : List D} : Wnth Q (n + 1) (d :: ds) ↔ Wnth Q n ds := by simp only [Wnth, List.getElem?_cons_succ]
theorem wn_a0 {Q : D → Prop} {d : D} {ds gs : List D} : Wnth Q 0 ((d :: ds) ++ gs) ↔ Q d := Iff.rfl
theorem wn_aS {Q : D → Prop} {n : Nat} {d : D} {ds gs : List D} : Wnth Q (n + 1) ((d :: ds) ++ gs) ↔ Wnth Q n (ds ++ gs) := by simp only [Wnth, List.cons_append, List.getElem?_cons_succ]
theorem wn_an {Q : D → Prop} {n : Nat} {gs : List D} : Wnth Q n ([] ++ gs) ↔ Wnth Q n gs := Iff.rfl
def Drev (Q : List D → Prop) (acc r : List D) : Prop := Q (acc.reverse ++ r)
theorem dr_n {Q : List D → Prop} {r : List D} : Drev Q [] r ↔ Q r := Iff.rfl
theorem dr_c {Q : List D → Prop} {acc r : List D} {x : D} : Drev Q (x :: acc) r ↔ Drev Q acc (x :: r) := by simp [Drev]
theorem wr_n {Q : List D → Prop} {acc ds : List D} : Wperm Q [] acc ds ↔ Drev Q acc [] := by simp [Wperm, permD, mapO, Hk, Drev]
theorem wr_c {Q : List D → Prop} {j : Nat} {perm : List Nat} {acc ds : List D} : Wperm Q (j :: perm) acc ds ↔ Wnth (fun d => Wperm Q perm (d :: acc) ds) j ds := by
  simp only [Wperm, Wnth, permD, mapO]
  cases ds[j]? with
  | none => exact Iff.rfl
  | some d =>
    dsimp only
    cases mapO (fun j => ds[j]?) perm with
    | none => exact Iff.rfl
    | some es => simp [Hk]
end
theorem ln_0 : ([] : List D).length ≤ maxLen ↔ True := iff_true_intro (by show 0 ≤ maxLen; decide)
theorem ln_1 {x0 : D} : ([x0] : List D).length ≤ maxLen ↔ True := iff_true_intro (by show 1 ≤ maxLen; decide)
theorem ln_2 {x0 x1 : D} : ([x0, x1] : List D).length ≤ maxLen ↔ True := iff_true_intro (by show 2 ≤ maxLen; decide)
theorem ln_3 {x0 x1 x2 : D} : ([x0, x1, x2] : List D).length ≤ maxLen ↔ True := iff_true_intro (by show 3 ≤ maxLen; decide)
theorem ln_4 {x0 x1 x2 x3 : D} : ([x0, x1, x2, x3] : List D).length ≤ maxLen ↔ True := iff_true_intro (by show 4 ≤ maxLen; decide)
theorem ln_5 {x0 x1 x2 x3 x4 : D} : ([x0, x1, x2, x3, x4] : List D).length ≤ maxLen ↔ True := iff_true_intro (by show 5 ≤ maxLen; decide)
theorem ln_6 {x0 x1 x2 x3 x4 x5 : D} : ([x0, x1, x2, x3, x4, x5] : List D).length ≤ maxLen ↔ True := iff_true_intro (by show 6 ≤ maxLen; decide)
theorem ln_7 {x0 x1 x2 x3 x4 x5 x6 : D} : ([x0, x1, x2, x3, x4, x5, x6] : List D).length ≤ maxLen ↔ True := iff_true_intro (by show 7 ≤ maxLen; decide)
theorem ln_8 {x0 x1 x2 x3 x4 x5 x6 x7 : D} : ([x0, x1, x2, x3, x4, x5, x6, x7] : List D).length ≤ maxLen ↔ True := iff_true_intro (by show 8 ≤ maxLen; decide)
theorem ln_9 {x0 x1 x2 x3 x4 x5 x6 x7 x8 : D} : ([x0, x1, x2, x3, x4, x5, x6, x7, x8] : List D).length ≤ maxLen ↔ True := iff_true_intro (by show 9 ≤ maxLen; decide)
theorem ln_10 {x0 x1 x2 x3 x4 x5 x6 x7 x8 x9 : D} : ([x0, x1, x2, x3, x4, x5, x6, x7, x8, x9] : List D).length ≤ maxLen ↔ True := iff_true_intro (by show 10 ≤ maxLen; decide)
theorem ln_11 {x0 x1 x2 x3 x4 x5 x6 x7 x8 x9 x10 : D} : ([x0, x1, x2, x3, x4, x5, x6, x7, x8, x9, x10] : List D).length ≤ maxLen ↔ True := iff_true_intro (by show 11 ≤ maxLen; decide)
theorem ln_12 {x0 x1 x2 x3 x4 x5 x6 x7 x8 x9 x10 x11 : D} : ([x0, x1, x2, x3, x4, x5, x6, x7, x8, x9, x10, x11] : List D).length ≤ maxLen ↔ True := iff_true_intro (by show 12 ≤ maxLen; decide)
theorem ln_13 {x0 x1 x2 x3 x4 x5 x6 x7 x8 x9 x10 x11 x12 : D} : ([x0, x1, x2, x3, x4, x5, x6, x7, x8, x9, x10, x11, x12] : List D).length ≤ maxLen ↔ True := iff_true_intro (by show 13 ≤ maxLen; decide)
theorem ln_14 {x0 x1 x2 x3 x4 x5 x6 x7 x8 x9 x10 x11 x12 x13 : D} : ([x0, x1, x2, x3, x4, x5, x6, x7, x8, x9, x10, x11, x12, x13] : List D).length ≤ maxLen ↔ True := iff_true_intro (by show 14 ≤ maxLen; decide)
theorem ln_15 {x0 x1 x2 x3 x4 x5 x6 x7 x8 x9 x10 x11 x12 x13 x14 : D} : ([x0, x1, x2, x3, x4, x5, x6, x7, x8, x9, x10, x11, x12, x13, x14] : List D).length ≤ maxLen ↔ True := iff_true_intro (by show 15 ≤ maxLen; decide)
theorem ln_16 {x0 x1 x2 x3 x4 x5 x6 x7 x8 x9 x10 x11 x12 x13 x14 x15 : D} : ([x0, x1, x2, x3, x4, x5, x6, x7, x8, x9, x10, x11, x12, x13, x14, x15] : List D).length ≤ maxLen ↔ True := iff_true_intro (by show 16 ≤ maxLen; decide)
theorem ln_17 {x0 x1 x2 x3 x4 x5 x6 x7 x8 x9 x10 x11 x12 x13 x14 x15 x16 : D} : ([x0, x1, x2, x3, x4, x5, x6, x7, x8, x9, x10, x11, x12, x13, x14, x15, x16] : List D).length ≤ maxLen ↔ True := iff_true_intro (by show 17 ≤ maxLen; decide)
theorem ln_18 {x0 x1 x2 x3 x4 x5 x6 x7 x8 x9 x10 x11 x12 x13 x14 x15 x16 x17 : D} : ([x0, x1, x2, x3, x4, x5, x6, x7, x8, x9, x10, x11, x12, x13, x14, x15, x16, x17] : List D).length ≤ maxLen ↔ True := iff_true_intro (by show 18 ≤ maxLen; decide)
theorem ln_19 {x0 x1 x2 x3 x4 x5 x6 x7 x8 x9 x10 x11 x12 x13 x14 x15 x16 x17 x18 : D} : ([x0, x1, x2, x3, x4, x5, x6, x7, x8, x9, x10, x11, x12, x13, x14, x15, x16, x17, x18] : List D).length ≤ maxLen ↔ True := iff_true_intro (by show 19 ≤ maxLen; decide)
theorem ln_20 {x0 x1 x2 x3 x4 x5 x6 x7 x8 x9 x10 x11 x12 x13 x14 x15 x16 x17 x18 x19 : D} : ([x0, x1, x2, x3, x4, x5, x6, x7, x8, x9, x10, x11, x12, x13, x14, x15, x16, x17, x18, x19] : List D).length ≤ maxLen ↔ True := iff_true_intro (by show 20 ≤ maxLen; decide)
/-! ### a def is called -/
theorem map_filterMap {α β : Type} {f : α → β} : ∀ {xs : List α}, xs.filterMap (fun x => some (f x)) = xs.map f
  | [] => rfl
  | x :: xs => by simp
theorem lc_imm {X : Ex} {xs : List D} {f : D → Hh → Res (Option D)} {h : Hh} {Q : List D → Hh → Prop} (g : D → Option D) (hm : xs.length < maxLen)
    (step : ∀ (x : D) (h1 : Hh) (Q1 : Option D → Hh → Prop), x ∈ xs → Same h h1 [] → (∀ h2, Same h1 h2 [] → Q1 (g x) h2) → Wk NoE Q1 (f x h1))
    (q : ∀ h1, Same h h1 [] → Q (xs.filterMap g) h1) : Wk X Q (goLc (srcImm xs) f (srcImm xs).n 0 [] h) := lc_pure rfl hm (fun _ _ _ _ => rfl) (fun _ _ => rfl) step q
theorem r_fn {X : Ex} {P : Pg} {k i n m : Nat} {b : Ss} {ds : List D} {h : Hh} {Q : D → Hh → Prop} (hf : P.fns[i]? = some ⟨n, m, b⟩) (hl : ds.length = n) (σ : Sl) (e : σ = ds.map some ++ List.replicate (m - ds.length) none) :
    Wk X Q (fnAt P (k + 1) i ds h) ↔ Wk (X.at []) (Fin Q) (evSs P (fnAt P k) b σ h) := by
  subst e
  unfold Wk
  unfold fnAt
  rw [hf]
  dsimp only
  unfold runFn
  rw [if_pos hl, ok_atS, ok_bind]
  refine ok_fun fun p h1 => ?_
  obtain ⟨fl, σ'⟩ := p
  cases fl <;> exact Iff.rfl
end Qw
end
section
set_option autoImplicit false
set_option Elab.async false
set_option linter.all false
set_option maxRecDepth 8000
set_option maxHeartbeats 4000000
/-! Q: loops by invariants, cells by name, dicts. -/
namespace Qw
open PySem Q
def Nw (Inv : Nat → Sl → Hh → Prop) (m : Nat) (Q : Fl × Sl → Hh → Prop) : Fl × Sl → Hh → Prop := fun q h => match q.1 with
  | .nx => ∃ m', m' < m ∧ Inv m' q.2 h
  | .rt e => Q (.rt e, q.2) h
def Nf (I : List D → List D → Sl → Hh → Prop) (a r : List D) (Q : Fl × Sl → Hh → Prop) : Fl × Sl → Hh → Prop := fun q h => match q.1 with
  | .nx => I a r q.2 h
  | .rt e => Q (.rt e, q.2) h
section
variable {X : Ex} {σ : Sl} {h : Hh} {Q : Fl × Sl → Hh → Prop}
theorem nw_n {Inv : Nat → Sl → Hh → Prop} {m : Nat} : Nw Inv m Q (.nx, σ) h ↔ ∃ m', m' < m ∧ Inv m' σ h := Iff.rfl
theorem nw_r {Inv : Nat → Sl → Hh → Prop} {m : Nat} {d : D} : Nw Inv m Q (.rt d, σ) h ↔ Q (.rt d, σ) h := Iff.rfl
theorem nf_n {I : List D → List D → Sl → Hh → Prop} {a r : List D} : Nf I a r Q (.nx, σ) h ↔ I a r σ h := Iff.rfl
theorem nf_r {I : List D → List D → Sl → Hh → Prop} {a r : List D} {d : D} : Nf I a r Q (.rt d, σ) h ↔ Q (.rt d, σ) h := Iff.rfl
theorem w_mono {X : Ex} {α : Type} {r : Res α} {Q Q' : α → Hh → Prop} (q : Wk X Q' r) (i : ∀ a h, Q' a h → Q a h) : Wk X Q r := by
  unfold Wk at q ⊢
  exact q.mono i
theorem wo_lift {d : D} {h1 : Hh} {R : Bool → Hh → Prop} : Wk X R (lift (truth h1 d) h1) ↔ Wo (fun b => R b h1) (truth h1 d) := by
  unfold Wk
  show Ok _ _ _ ↔ Hk _ _
  cases truth h1 d <;> exact Iff.rfl
theorem w_while {c : Sl → Hh → Res Bool} {f : Sl → Hh → Res (Fl × Sl)} (Inv : Nat → Sl → Hh → Prop)
    (step : ∀ m σ h, Inv m σ h → Wk X (fun b h1 => Wf (Wk X (Nw Inv m Q) (f σ h1)) (Q (.nx, σ) h1) (some b)) (c σ h)) {n : Nat} (m : Nat) (l : m < n) (i : Inv m σ h) : Wk X Q (goWhile c f n σ h) := by
  unfold Wk at step ⊢
  refine ok_while Inv (fun m σ h i => ?_) n m σ h l i
  refine Ok.mono (step m σ h i) fun b h1 z => ?_
  cases b with
  | false => exact z
  | true => exact Ok.mono z fun q h2 y => y
theorem w_forL {f : D → Sl → Hh → Res (Fl × Sl)} {xs : List D} (I : List D → List D → Sl → Hh → Prop) (step : ∀ a x r σ h, xs = a ++ x :: r → I a (x :: r) σ h → Wk X (Nf I (a ++ [x]) r Q) (f x σ h))
    (last : ∀ σ h, I xs [] σ h → Q (.nx, σ) h) (i : I [] xs σ h) : Wk X Q (goForL f xs σ h) := by
  unfold Wk at step ⊢
  refine ok_forL (fun a r σ h => xs = a ++ r ∧ I a r σ h) (fun a x r σ h z => ?_) xs [] σ h (fun b σ h e z => ?_) ⟨rfl, i⟩
  · refine Ok.mono (step a x r σ h z.1 z.2) fun q h2 y => ?_
    obtain ⟨fl, σ'⟩ := q
    cases fl with
    | nx => exact ⟨by rw [z.1, List.append_assoc]; rfl, y⟩
    | rt e => exact y
  · obtain ⟨e1, z⟩ := z
    rw [List.append_nil] at e1
    exact last σ h (e1 ▸ z)
theorem w_forC {f : D → Sl → Hh → Res (Fl × Sl)} {i n : Nat} {xs : List D} (hn : n = xs.length) (I : List D → List D → Sl → Hh → Prop) (cell : ∀ a r σ h, I a r σ h → lstOf h (.ref i) = some xs)
    (step : ∀ a x r σ h, xs = a ++ x :: r → I a (x :: r) σ h → Wk X (Nf I (a ++ [x]) r Q) (f x σ h))
    (last : ∀ σ h, I xs [] σ h → Q (.nx, σ) h) (i0 : I [] xs σ h) : Wk X Q (goFor (srcCell i n) f (srcCell i n).n 0 σ h) := by
  unfold Wk at step ⊢
  subst hn
  refine ok_forC (fun a r σ h => xs = a ++ r ∧ I a r σ h) (fun a r σ h z => cell a r σ h z.2) (fun a x r σ h z => ?_) (fun σ h z => last σ h z.2) ⟨rfl, i0⟩
  refine Ok.mono (step a x r σ h z.1 z.2) fun q h2 y => ?_
  obtain ⟨fl, σ'⟩ := q
  cases fl with
  | nx => exact ⟨by rw [z.1, List.append_assoc]; rfl, y⟩
  | rt e => exact y
end
/-- a comprehension, by an invariant -/
def Nl {α : Type} (I : List D → List D → List α → Hh → Prop) (a r : List D) (acc : List α) : Option α → Hh → Prop := fun o h => match o with
  | some y => I a r (acc ++ [y]) h
  | none => I a r acc h
section
variable {X : Ex} {α : Type} {h : Hh} {Q : List α → Hh → Prop}
theorem nl_s {I : List D → List D → List α → Hh → Prop} {a r : List D} {acc : List α} {y : α} : Nl I a r acc (some y) h ↔ I a r (acc ++ [y]) h := Iff.rfl
theorem nl_n {I : List D → List D → List α → Hh → Prop} {a r : List D} {acc : List α} : Nl I a r acc none h ↔ I a r acc h := Iff.rfl
theorem w_lc {s : Src} {f : D → Hh → Res (Option α)} {xs : List D} (hn : s.n = xs.length) (I : List D → List D → List α → Hh → Prop)
    (ha : ∀ (a r : List D) (acc : List α) (h : Hh), I a r acc h → a ++ r = xs → (∀ x r', r = x :: r' → s.at_ h a.length = some x) ∧ (r = [] → s.fin h = true))
    (step : ∀ a x r acc h, xs = a ++ x :: r → I a (x :: r) acc h → Wk NoE (Nl I (a ++ [x]) r acc) (f x h))
    (last : ∀ acc h, I xs [] acc h → acc.length < maxLen ∧ Q acc h) (i0 : I [] xs [] h) : Wk X Q (goLc s f s.n 0 [] h) := by
  unfold Wk at step ⊢
  refine ok_lcS hn I ha (fun a x r acc h e i => ?_) last i0
  refine Ok.mono (step a x r acc h e.symm i) fun o h1 z => ?_
  cases o <;> exact z
theorem w_lcI {f : D → Hh → Res (Option α)} {xs : List D} (I : List D → List D → List α → Hh → Prop)
    (step : ∀ a x r acc h, xs = a ++ x :: r → I a (x :: r) acc h → Wk NoE (Nl I (a ++ [x]) r acc) (f x h))
    (last : ∀ acc h, I xs [] acc h → acc.length < maxLen ∧ Q acc h) (i0 : I [] xs [] h) : Wk X Q (goLc (srcImm xs) f (srcImm xs).n 0 [] h) := by
  refine w_lc (s := srcImm xs) rfl I (fun a r acc h i e => ⟨fun x r' er => ?_, fun _ => rfl⟩) step last i0
  subst er
  show xs[a.length]? = _
  rw [← e, List.getElem?_append_right (Nat.le_refl _), Nat.sub_self]
  rfl
theorem w_lcR {f : D → Hh → Res (Option α)} {lo hi : Int} (I : List D → List D → List α → Hh → Prop)
    (step : ∀ a x r acc h, rangeL lo hi = a ++ x :: r → I a (x :: r) acc h → Wk NoE (Nl I (a ++ [x]) r acc) (f x h))
    (last : ∀ acc h, I (rangeL lo hi) [] acc h → acc.length < maxLen ∧ Q acc h) (i0 : I [] (rangeL lo hi) [] h) : Wk X Q (goLc (srcRange lo hi) f (srcRange lo hi).n 0 [] h) := by
  refine w_lc (s := srcRange lo hi) (rangeL_len lo hi).symm I (fun a r acc h i e => ⟨fun x r' er => ?_, fun _ => rfl⟩) step last i0
  subst er
  have l : a.length < (hi - lo).toNat := by rw [← rangeL_len, ← e]; simp
  have : (rangeL lo hi)[a.length]? = some x := by rw [← e, List.getElem?_append_right (Nat.le_refl _), Nat.sub_self]; rfl
  rw [rangeL_get l] at this
  exact this
end
section
variable {h : Hh}
/-! ### cells by what they hold -/
theorem lst_get {i : Nat} {xs : List D} (e : h[i]? = some (.lst xs)) : lstOf h (.ref i) = some xs := by simp only [lstOf, e]
theorem ro_get {i : Nat} {xs : List D} (e : h[i]? = some (.ro xs)) : lstOf h (.ref i) = some xs := by simp only [lstOf, e]
theorem kind_lst {i : Nat} {xs : List D} (e : h[i]? = some (.lst xs)) : kindD h (.ref i) = some .lst := by simp only [kindD, e]
theorem src_lst {i : Nat} {xs : List D} (e : lstOf h (.ref i) = some xs) : srcOf h (.ref i) = some (srcCell i xs.length) := by
  simp only [lstOf] at e
  simp only [srcOf]
  match hc : h[i]?, e with
  | some (.lst ys), e => cases e; rfl
  | some (.ro ys), e => cases e; rfl
theorem len_lst {i : Nat} {xs : List D} (e : lstOf h (.ref i) = some xs) : btD .len [.ref i] h = some (.int xs.length, h) := by
  simp only [lstOf] at e
  simp only [btD]
  match hc : h[i]?, e with
  | some (.lst ys), e => cases e; rfl
  | some (.ro ys), e => cases e; rfl
theorem len_dct {i : Nat} {kvs : List (D × D)} (e : h[i]? = some (.dct kvs)) : btD .len [.ref i] h = some (.int kvs.length, h) := by simp only [btD, e]
theorem tup_lst {i : Nat} {xs : List D} (e : lstOf h (.ref i) = some xs) : btD .tuple [.ref i] h = some (.tup xs, h) := by
  simp only [btD, e, Option.map_some]
theorem push_lst {i : Nat} {xs : List D} {v : D} (e : h[i]? = some (.lst xs)) (l : xs.length < maxLen) : bmD .append (.ref i) [v] h = some (.non, h.set i (.lst (xs ++ [v]))) := by
  simp only [bmD, e, l, if_true]
theorem ixL_nat {xs : List D} {k : Nat} : ixL xs (k : Int) = xs[k]? := by
  simp only [ixL, L2.atI, L2.ixN]
  by_cases l : k < xs.length
  · rw [if_pos (by omega), if_pos (by omega)]; simp
  · rw [if_pos (by omega), if_neg (by omega)]; simp; omega
theorem sub_lst {i k : Nat} {xs : List D} (e : lstOf h (.ref i) = some xs) : subD h (.ref i) (.int (k : Nat)) = xs[k]? := by
  simp only [lstOf] at e
  simp only [subD]
  match hc : h[i]?, e with
  | some (.lst ys), e => cases e; exact ixL_nat
  | some (.ro ys), e => cases e; exact ixL_nat
theorem isi_cls {i c c' : Nat} {fs : List (Str × D)} (e : h[i]? = some (.obj c fs)) : isiD h (.ref i) (.cls c') = some (decide (c = c')) := by simp only [isiD, e]
theorem kind_txt {ks : List D} {x : Str} (f : ks.all isFlat = true) : kindOk ks (.str x) = true := by simp [kindOk, f, isFlat]
theorem sub_txt {i : Nat} {kvs : List (D × D)} {x : Str} (e : h[i]? = some (.dct kvs)) (f : (kvs.map (·.1)).all isFlat = true) : subD h (.ref i) (.str x) = lookD (.str x) kvs := by
  simp only [subD, e]
  rw [if_pos (kind_txt f)]
theorem set_txt {i : Nat} {kvs : List (D × D)} {x : Str} {v : D} (e : h[i]? = some (.dct kvs)) (f : (kvs.map (·.1)).all isFlat = true) (l : kvs.length < maxLen) : setD h (.ref i) (.str x) v = some (h.set i (.dct (putD (.str x) v kvs))) := by
  simp only [setD, e]
  rw [if_pos (by simp [kind_txt f, l])]
theorem cut_to {α : Type} {xs : List α} {i : Int} (l : 0 ≤ i) : cutL xs none (some i) = xs.take i.toNat := by
  simp only [cutL, HT.sIx, List.drop_zero, Nat.sub_zero]
  rw [if_neg (by omega), List.take_eq_take_iff]
  omega
theorem cut_from {α : Type} {xs : List α} {i : Int} (l : 0 ≤ i) : cutL xs (some i) none = xs.drop i.toNat := by
  simp only [cutL, HT.sIx]
  rw [if_neg (by omega)]
  by_cases e : i.toNat ≤ xs.length
  · rw [Nat.min_eq_left e, List.take_of_length_le (by simp)]
  · rw [Nat.min_eq_right (by omega), List.drop_eq_nil_of_le (Nat.le_refl _), List.drop_eq_nil_of_le (by omega)]
    simp
theorem slc_to {xs : List D} {i : Int} (l : 0 ≤ i) : slcD h (.tup xs) none (some i) = some (.tup (xs.take i.toNat), h) := by simp only [slcD, cut_to l]
theorem slc_from {xs : List D} {i : Int} (l : 0 ≤ i) : slcD h (.tup xs) (some i) none = some (.tup (xs.drop i.toNat), h) := by simp only [slcD, cut_from l]
theorem slc_lto {j : Nat} {xs : List D} {i : Int} (e : lstOf h (.ref j) = some xs) (l : 0 ≤ i) : slcD h (.ref j) none (some i) = some (.ref h.length, h ++ [.lst (xs.take i.toNat)]) := by simp only [slcD, e, cut_to l, Option.map_some]; rfl
theorem slc_lfrom {j : Nat} {xs : List D} {i : Int} (e : lstOf h (.ref j) = some xs) (l : 0 ≤ i) : slcD h (.ref j) (some i) none = some (.ref h.length, h ++ [.lst (xs.drop i.toNat)]) := by simp only [slcD, e, cut_from l, Option.map_some]; rfl
theorem items_tup {xs : List D} : itemsOf h (.tup xs) = some xs := rfl
theorem new_get {c : C} : (h ++ [c])[h.length]? = some c := by simp
theorem new_ex (h : Hh) (c : C) : ∃ h1 i, h1 = h ++ [c] ∧ i = h.length ∧ Same h h1 [] ∧ h1[i]? = some c := ⟨_, _, rfl, rfl, same_new, new_get⟩
theorem set_get {i : Nat} {c c' : C} (e : h[i]? = some c) : (h.set i c')[i]? = some c' := List.getElem?_set_self (List.getElem?_eq_some_iff.mp e).1
theorem lt_of_get {i : Nat} {c : C} (e : h[i]? = some c) : i < h.length := (List.getElem?_eq_some_iff.mp e).1
end
theorem ok_unit : okN 60 (.tup []) = true := rfl
theorem eq_unit {P : Pg} {call : Call} {xs : List D} {h : Hh} (o : okN 60 (.tup xs) = true) : cmpO P call .eq (.tup xs) (.tup []) h = .ok (.bl xs.isEmpty) h := by
  rw [c_eq o ok_unit, peq_tup]
  cases xs <;> simp [peqs_nil, peqs_cn]
def BlQ (Q : Bool → Hh → Prop) : D → Hh → Prop := fun r h => match r with
  | .bl k => Q k h
  | _ => False
theorem blq {Q : Bool → Hh → Prop} {b : Bool} {h : Hh} : BlQ Q (.bl b) h ↔ Q b h := Iff.rfl
theorem is_obj {h : Hh} {i c : Nat} {fs : List (Str × D)} (e : h[i]? = some (.obj c fs)) : isObj h (.ref i) = true := by simp only [isObj, e]
theorem c_neO {X : Ex} {P : Pg} {call : Call} {h : Hh} {Q : D → Hh → Prop} {i f : Nat} {d : D} (e : isObj h (.ref i) = true) (m : objM P h (.ref i) "__eq__" = some f) : Wk X Q (cmpO P call .ne (.ref i) d h) ↔ Wk NoE (BlQ fun k h' => Q (.bl (!k)) h') (call f [.ref i, d] h) := by
  unfold Wk cmpO
  rw [e]
  dsimp only
  rw [m]
  dsimp only
  rw [ok_bindN]
  refine ok_fun fun r h' => ?_
  cases r <;> exact Iff.rfl
theorem c_eqO {X : Ex} {P : Pg} {call : Call} {h : Hh} {Q : D → Hh → Prop} {i f : Nat} {d : D} (e : isObj h (.ref i) = true) (m : objM P h (.ref i) "__eq__" = some f) : Wk X Q (cmpO P call .eq (.ref i) d h) ↔ Wk NoE (BlQ fun k h' => Q (.bl k) h') (call f [.ref i, d] h) := by
  unfold Wk cmpO
  rw [e]
  dsimp only
  rw [m]
  dsimp only
  rw [ok_bindN]
  refine ok_fun fun r h' => ?_
  cases r <;> exact Iff.rfl
theorem add_lst {h : Hh} {i j : Nat} {xs ys : List D} (e : h[i]? = some (.lst xs)) (f : h[j]? = some (.lst ys)) (l : xs.length + ys.length ≤ maxLen) : opD .add (.ref i) (.ref j) h = some (.ref h.length, h ++ [.lst (xs ++ ys)]) := by
  simp only [opD, e, f]
  rw [if_pos (by simpa using l)]
  rfl
theorem mul_lst {h : Hh} {i : Nat} {n : Int} {xs : List D} (e : h[i]? = some (.lst xs)) (l : -1000000 < n ∧ n < 1000000 ∧ xs.length * n.toNat ≤ maxLen) : opD .mul (.ref i) (.int n) h = some (.ref h.length, h ++ [.lst (repL n.toNat xs)]) := by
  simp only [opD, e]
  rw [if_pos (by simpa using l)]
  rfl
/-! ### dicts by what they hold -/
def lookA {α β : Type} [DecidableEq α] (k : α) : List (α × β) → Option β
  | [] => none
  | (a, v) :: r => if a = k then some v else lookA k r
def putA {α β : Type} [DecidableEq α] (k : α) (v : β) : List (α × β) → List (α × β)
  | [] => [(k, v)]
  | (a, w) :: r => if a = k then (a, v) :: r else (a, w) :: putA k v r
def encKV {α β : Type} (ek : α → D) (ev : β → D) (kvs : List (α × β)) : List (D × D) := kvs.map fun p => (ek p.1, ev p.2)
section
variable {α β : Type} [DecidableEq α] {ek : α → D} {ev : β → D} {h : Hh}
theorem look_enc (inj : ∀ a b, ek a = ek b → a = b) {k : α} : ∀ {kvs : List (α × β)}, lookD (ek k) (encKV ek ev kvs) = (lookA k kvs).map ev
  | [] => rfl
  | (a, v) :: r => by
    simp only [encKV, List.map_cons, lookD, lookA]
    by_cases e : a = k
    · subst e; simp
    · rw [if_neg (fun z => e (inj _ _ z)), if_neg e]
      exact look_enc inj
theorem put_enc (inj : ∀ a b, ek a = ek b → a = b) {k : α} {v : β} : ∀ {kvs : List (α × β)}, putD (ek k) (ev v) (encKV ek ev kvs) = encKV ek ev (putA k v kvs)
  | [] => rfl
  | (a, w) :: r => by
    simp only [encKV, List.map_cons, putD, putA]
    by_cases e : a = k
    · subst e; simp
    · rw [if_neg (fun z => e (inj _ _ z)), if_neg e]
      simp only [List.map_cons, List.cons.injEq, true_and]
      exact put_enc inj
theorem lookA_none {k : α} : ∀ {kvs : List (α × β)}, lookA k kvs = none ↔ k ∉ kvs.map (·.1)
  | [] => by simp [lookA]
  | (a, v) :: r => by
    simp only [lookA, List.map_cons, List.mem_cons, not_or]
    by_cases e : a = k
    · subst e; simp
    · rw [if_neg e, lookA_none]
      exact ⟨fun z => ⟨fun y => e y.symm, z⟩, fun z => z.2⟩
theorem putA_new {k : α} {v : β} : ∀ {kvs : List (α × β)}, k ∉ kvs.map (·.1) → putA k v kvs = kvs ++ [(k, v)]
  | [], _ => rfl
  | (a, w) :: r, n => by
    simp only [List.map_cons, List.mem_cons, not_or] at n
    simp only [putA]
    rw [if_neg (fun z => n.1 z.symm), putA_new n.2]
    rfl
theorem kindT (hk : ∀ a, isTupK (ek a) = true) {k : α} {kvs : List (α × β)} : kindOk ((encKV ek ev kvs).map (·.1)) (ek k) = true := by
  simp only [kindOk, encKV, List.map_map, Bool.or_eq_true, Bool.and_eq_true, List.all_eq_true, List.mem_map]
  refine .inr ⟨hk k, ?_⟩
  rintro x ⟨p, _, rfl⟩
  exact hk p.1
theorem in_dct {j : Nat} {k : α} {kvs : List (α × β)} (inj : ∀ a b, ek a = ek b → a = b) (hk : ∀ a, isTupK (ek a) = true) (e : h[j]? = some (.dct (encKV ek ev kvs))) : inD h (ek k) (.ref j) = some (lookA k kvs).isSome := by
  simp only [inD, e, kindT hk, if_true, look_enc inj, Option.isSome_map]
theorem sub_dct {j : Nat} {k : α} {kvs : List (α × β)} (inj : ∀ a b, ek a = ek b → a = b) (hk : ∀ a, isTupK (ek a) = true) (e : h[j]? = some (.dct (encKV ek ev kvs))) : subD h (.ref j) (ek k) = (lookA k kvs).map ev := by
  have : subD h (.ref j) (ek k) = if kindOk ((encKV ek ev kvs).map (·.1)) (ek k) then lookD (ek k) (encKV ek ev kvs) else none := by
    cases hh : ek k <;> simp only [subD, e]
  rw [this, kindT hk, if_pos rfl, look_enc inj]
theorem set_dct {j : Nat} {k : α} {v : β} {kvs : List (α × β)} (inj : ∀ a b, ek a = ek b → a = b) (hk : ∀ a, isTupK (ek a) = true) (l : kvs.length < maxLen) (e : h[j]? = some (.dct (encKV ek ev kvs))) : setD h (.ref j) (ek k) (ev v) = some (h.set j (.dct (encKV ek ev (putA k v kvs)))) := by
  simp only [setD, e, kindT hk, Bool.true_and]
  rw [if_pos (by simp [encKV, l]), put_enc inj]
theorem c_in {P : Pg} {call : Call} {j : Nat} {d : D} {b : Bool} (o : isObj h d = false) (e : inD h d (.ref j) = some b) : cmpO P call .inn d (.ref j) h = .ok (.bl b) h := by
  rw [cmpO_no o]; simp only [cmpD, e]; rfl
theorem c_nin {P : Pg} {call : Call} {j : Nat} {d : D} {b : Bool} (o : isObj h d = false) (e : inD h d (.ref j) = some b) : cmpO P call .notin d (.ref j) h = .ok (.bl (!b)) h := by
  rw [cmpO_no o]; simp only [cmpD, e]; rfl
end
theorem nodup_le {α : Type} [DecidableEq α] : ∀ {l r : List α}, l.Nodup → (∀ x ∈ l, x ∈ r) → l.length ≤ r.length
  | [], r, _, _ => Nat.zero_le _
  | x :: l, r, nd, sub => by
    have nd' := List.nodup_cons.mp nd
    have hx := sub x (by simp)
    have ih : l.length ≤ (r.erase x).length := nodup_le nd'.2 fun y hy => (List.mem_erase_of_ne (fun e : y = x => nd'.1 (e ▸ hy))).mpr (sub y (by simp [hy]))
    have := List.length_erase_of_mem hx
    have : 0 < r.length := List.length_pos_of_mem hx
    simp only [List.length_cons]
    omega
/-! ### going on till a state is met again -/
def itn {α : Type} (f : α → α) : Nat → α → α
  | 0, s => s
  | n + 1, s => f (itn f n s)
/-- the first n with it, or none -/
def Till {α : Type} (f : α → α) (arm : α → Bool) (s : α) : Option Nat → Prop
  | some n => arm (itn f n s) = true ∧ ∀ j, j < n → arm (itn f j s) = false
  | none => ∀ j, arm (itn f j s) = false
section
variable {α : Type} {f : α → α} {arm : α → Bool} {s : α}
theorem till_one {a b : Option Nat} (h1 : Till f arm s a) (h2 : Till f arm s b) : a = b := by
  cases a with
  | none => cases b with
    | none => rfl
    | some n => have := h2.1; rw [h1 n] at this; exact absurd this (by simp)
  | some m => cases b with
    | none => have := h1.1; rw [h2 m] at this; exact absurd this (by simp)
    | some n =>
      by_cases l : m < n
      · have := h2.2 m l; rw [h1.1] at this; simp at this
      · by_cases l' : n < m
        · have := h1.2 n l'; rw [h2.1] at this; simp at this
        · rw [show m = n by omega]
theorem itn_add {m : Nat} : ∀ n, itn f (n + m) s = itn f n (itn f m s)
  | 0 => by simp [itn]
  | n + 1 => by rw [show n + 1 + m = (n + m) + 1 by omega]; simp only [itn]; rw [itn_add n]
/-- met again and nothing till then: never -/
theorem till_loop {n i : Nat} (l : i < n) (e : itn f n s = itn f i s) (a : ∀ j, j < n → arm (itn f j s) = false) : ∀ j, arm (itn f j s) = false := by
  intro j
  induction j using Nat.strongRecOn with
  | _ j ih =>
    by_cases lj : j < n
    · exact a j lj
    · have : itn f j s = itn f (j - n + i) s := by
        rw [itn_add, ← e, ← itn_add, show j - n + n = j by omega]
      rw [this]
      exact ih _ (by omega)
/-- more steps than states: one is met again -/
theorem itn_again [DecidableEq α] {r : List α} (sub : ∀ j, itn f j s ∈ r) : ∃ i n, i < n ∧ n ≤ r.length ∧ itn f n s = itn f i s := by
  by_cases nd : ((List.range (r.length + 1)).map fun j => itn f j s).Nodup
  · have := nodup_le nd (r := r) (fun x hx => by
      obtain ⟨j, _, rfl⟩ := List.mem_map.mp hx
      exact sub j)
    simp at this
    omega
  · rw [List.Nodup, List.pairwise_map] at nd
    have : ¬ ∀ i n, i < n → n < r.length + 1 → itn f i s ≠ itn f n s := fun z => nd (by
      rw [List.pairwise_iff_getElem]
      intro i n hi hn l
      simp only [List.length_range] at hn
      simpa using z i n l hn)
    simp only [Classical.not_forall] at this
    obtain ⟨i, n, h1, h2, h3⟩ := this
    exact ⟨i, n, h1, by omega, (Classical.byContradiction fun z => h3 z).symm⟩
end

section
variable {α : Type} {f : α → α} {arm : α → Bool} {s : α}
theorem till_bound [DecidableEq α] {r : List α} {n : Nat} (t : Till f arm s (some n)) (sub : ∀ j, itn f j s ∈ r) : n ≤ r.length := by
  obtain ⟨i, m, l, lm, e⟩ := itn_again sub
  by_cases h : n < m
  · omega
  · have := till_loop l e (fun j hj => t.2 j (by omega)) n
    rw [t.1] at this
    cases this
end
end Qw
end
section
set_option autoImplicit false
set_option Elab.async false
set_option linter.all false
set_option maxRecDepth 8000
set_option maxHeartbeats 4000000
/-! Q: walks over lists of things of one kind. -/
namespace Qw
open PySem Q
abbrev natD (n : Nat) : D := .int n
/-- where a list of things stands in a walk -/
structure At {β : Type} (s : Src) (g : β → D) (ys : List β) (h : Hh) : Prop where
  n : s.n = ys.length
  at_ : ∀ k, k < ys.length → s.at_ h k = (ys[k]?).map g
  fin : s.fin h = true
section
variable {β : Type} {g : β → D} {ys : List β} {h : Hh}
theorem at_imm : At (srcImm (ys.map g)) g ys h := ⟨by simp [srcImm], fun k l => by simp [srcImm], rfl⟩
theorem at_cell {i n : Nat} (hn : n = ys.length) (e : lstOf h (.ref i) = some (ys.map g)) : At (srcCell i n) g ys h := by
  subst hn
  exact ⟨rfl, fun k l => by simp [srcCell, e], by simp [srcCell, e]⟩
theorem at_range {n : Nat} : At (srcRange 0 (n : Nat)) natD (List.range n) h := by
  refine ⟨by simp [srcRange], fun k l => ?_, rfl⟩
  simp only [List.length_range] at l
  simp [srcRange, List.getElem?_range l]
theorem at_enum {s : Src} (a : At s g ys h) {k0 : Int} : At (srcEnum s k0) (fun p : Nat × β => .tup [.int (k0 + (p.1 : Nat)), g p.2]) ((List.range ys.length).zip ys) h := by
  refine ⟨by simp [srcEnum, a.n], fun k l => ?_, a.fin⟩
  simp only [List.length_zip, List.length_range, Nat.min_self] at l
  simp [srcEnum, a.at_ k l, l]
theorem at_zip {γ : Type} {g' : γ → D} {zs : List γ} {s t : Src} (a : At s g ys h) (b : At t g' zs h) : At (srcZip s t) (fun p : β × γ => .tup [g p.1, g' p.2]) (ys.zip zs) h := by
  refine ⟨by simp [srcZip, a.n, b.n, List.length_zip], fun k l => ?_, by simp [srcZip, a.fin, b.fin]⟩
  simp only [List.length_zip] at l
  have l1 : k < ys.length := by omega
  have l2 : k < zs.length := by omega
  have lz : k < (ys.zip zs).length := by simp [List.length_zip]; omega
  rw [List.getElem?_eq_getElem lz]
  simp [srcZip, a.at_ k l1, b.at_ k l2, l1, l2]
end
section
variable {X : Ex} {β : Type} {g : β → D} {ys : List β} {σ : Sl} {h : Hh}
def Nm (I : List β → List β → Sl → Hh → Prop) (a r : List β) (Q : Fl × Sl → Hh → Prop) : Fl × Sl → Hh → Prop := fun q h => match q.1 with
  | .nx => I a r q.2 h
  | .rt e => Q (.rt e, q.2) h
theorem nm_n {I : List β → List β → Sl → Hh → Prop} {a r : List β} {Q : Fl × Sl → Hh → Prop} : Nm I a r Q (.nx, σ) h ↔ I a r σ h := Iff.rfl
theorem nm_r {I : List β → List β → Sl → Hh → Prop} {a r : List β} {Q : Fl × Sl → Hh → Prop} {d : D} : Nm I a r Q (.rt d, σ) h ↔ Q (.rt d, σ) h := Iff.rfl
/-- a for over things of one kind: what is done, what is left -/
theorem w_for {s : Src} {f : D → Sl → Hh → Res (Fl × Sl)} {Q : Fl × Sl → Hh → Prop} (g : β → D) (ys : List β) (I : List β → List β → Sl → Hh → Prop)
    (src : ∀ a r σ h, ys = a ++ r → I a r σ h → At s g ys h)
    (step : ∀ a x r σ h, ys = a ++ x :: r → I a (x :: r) σ h → Wk X (Nm I (a ++ [x]) r Q) (f (g x) σ h))
    (last : ∀ σ h, I ys [] σ h → Q (.nx, σ) h) (i0 : I [] ys σ h) : Wk X Q (goFor s f s.n 0 σ h) := by
  unfold Wk at step ⊢
  have hn := (src [] ys σ h rfl i0).n
  refine ok_for (fun k σ h => I (ys.take k) (ys.drop k) σ h) ?_ ?_ _ 0 σ h rfl (by simpa using i0)
  · intro k σ h lk iv
    have lk' : k < ys.length := by omega
    have ek := (List.take_append_drop k ys).symm
    refine ⟨g ys[k], ?_, ?_⟩
    · rw [(src _ _ σ h ek iv).at_ k lk', List.getElem?_eq_getElem lk']; rfl
    · rw [List.drop_eq_getElem_cons lk'] at iv ek
      refine Ok.mono (step _ _ _ _ _ ek iv) fun p h1 z => ?_
      obtain ⟨fl, σ'⟩ := p
      cases fl with
      | nx => simpa [Nm, List.take_append_getElem] using z
      | rt e => exact z
  · intro σ h iv
    have ek := (List.take_append_drop s.n ys).symm
    have fin := (src _ _ σ h ek iv).fin
    rw [hn, List.take_length, List.drop_length] at iv
    exact ⟨fin, last σ h iv⟩
def No {α : Type} (I : List β → List β → List α → Hh → Prop) (a r : List β) (acc : List α) : Option α → Hh → Prop := fun o h => match o with
  | some y => I a r (acc ++ [y]) h
  | none => I a r acc h
theorem no_s {α : Type} {I : List β → List β → List α → Hh → Prop} {a r : List β} {acc : List α} {y : α} : No I a r acc (some y) h ↔ I a r (acc ++ [y]) h := Iff.rfl
theorem no_n {α : Type} {I : List β → List β → List α → Hh → Prop} {a r : List β} {acc : List α} : No I a r acc none h ↔ I a r acc h := Iff.rfl
/-- a comprehension over things of one kind -/
theorem w_comp {α : Type} {s : Src} {f : D → Hh → Res (Option α)} {Q : List α → Hh → Prop} (g : β → D) (ys : List β) (I : List β → List β → List α → Hh → Prop)
    (src : ∀ a r acc h, ys = a ++ r → I a r acc h → At s g ys h)
    (step : ∀ a x r acc h, ys = a ++ x :: r → I a (x :: r) acc h → Wk NoE (No I (a ++ [x]) r acc) (f (g x) h))
    (last : ∀ acc h, I ys [] acc h → acc.length < maxLen ∧ Q acc h) (i0 : I [] ys [] h) : Wk X Q (goLc s f s.n 0 [] h) := by
  unfold Wk at step ⊢
  have hn := (src [] ys [] h rfl i0).n
  refine ok_lc (fun k acc h => I (ys.take k) (ys.drop k) acc h) ?_ ?_ _ 0 [] h rfl (by simpa using i0)
  · intro k acc h lk iv
    have lk' : k < ys.length := by omega
    have ek := (List.take_append_drop k ys).symm
    refine ⟨g ys[k], ?_, ?_⟩
    · rw [(src _ _ acc h ek iv).at_ k lk', List.getElem?_eq_getElem lk']; rfl
    · rw [List.drop_eq_getElem_cons lk'] at iv ek
      refine Ok.mono (step _ _ _ _ _ ek iv) fun o h1 z => ?_
      cases o with
      | some y => simpa [No, List.take_append_getElem] using z
      | none => simpa [No, List.take_append_getElem] using z
  · intro acc h iv
    have ek := (List.take_append_drop s.n ys).symm
    have fin := (src _ _ acc h ek iv).fin
    rw [hn, List.take_length, List.drop_length] at iv
    exact ⟨fin, last acc h iv⟩
/-- .. that changes nothing: f of each, some left out -/
theorem w_pure {s : Src} {f : D → Hh → Res (Option D)} {Q : List D → Hh → Prop} (g : β → D) (ys : List β) (F : β → Option D) (hm : ys.length < maxLen)
    (src : ∀ h1, Same h h1 [] → At s g ys h1)
    (step : ∀ (x : β) (h1 : Hh) (Q1 : Option D → Hh → Prop), x ∈ ys → Same h h1 [] → (∀ h2, Same h1 h2 [] → Q1 (F x) h2) → Wk NoE Q1 (f (g x) h1))
    (q : ∀ h1, Same h h1 [] → Q (ys.filterMap F) h1) : Wk X Q (goLc s f s.n 0 [] h) := by
  refine w_comp g ys (fun a r acc h1 => Same h h1 [] ∧ acc = a.filterMap F) (fun a r acc h1 e z => src h1 z.1) ?_ ?_ ⟨Same.refl, rfl⟩
  · rintro a x r acc h1 e ⟨s1, rfl⟩
    refine step x h1 _ (by rw [e]; simp) s1 fun h2 s2 => ?_
    cases hg : F x with
    | none => exact ⟨s1.trans s2, by simp [List.filterMap_append, hg]⟩
    | some y => exact ⟨s1.trans s2, by simp [List.filterMap_append, hg]⟩
  · rintro acc h1 ⟨s1, rfl⟩
    exact ⟨Nat.lt_of_le_of_lt (List.length_filterMap_le _ _) hm, q h1 s1⟩
end
theorem filterMap_some {α β : Type} {f : α → β} {xs : List α} : xs.filterMap (fun x => some (f x)) = xs.map f := map_filterMap
theorem filterMap_if {α β : Type} {p : α → Bool} {f : α → β} : ∀ {xs : List α}, xs.filterMap (fun x => if p x then some (f x) else none) = (xs.filter p).map f
  | [] => rfl
  | x :: xs => by
    simp only [List.filterMap_cons, List.filter_cons]
    cases h : p x
    · simp; exact filterMap_if
    · simp; exact filterMap_if
theorem strs_map {β : Type} {f : β → Str} : ∀ {xs : List β}, strsOf (xs.map fun x => .str (f x)) = some (xs.map f)
  | [] => rfl
  | x :: xs => by simp only [List.map_cons, strsOf, strs_map, Option.map_some]
theorem join_fold (e : Array Nat) (he : e = #[]) : ∀ (xs : List Str) (a : Array Nat), xs.foldl (fun acc p => acc ++ e ++ p.cps) a = a ++ (xs.flatMap fun x => x.cps.toList).toArray
  | [], a => by simp
  | x :: r, a => by
    rw [List.foldl_cons, join_fold e he r, he]
    obtain ⟨⟨x⟩⟩ := x
    simp
theorem join_none (xs : List Str) : Txt.join "" xs = ⟨(xs.flatMap fun x => x.cps.toList).toArray⟩ := by
  cases xs with
  | nil => rfl
  | cons x r =>
    show Builtin.Str.glued _ _ = _
    unfold Builtin.Str.glued
    rw [join_fold (Str.ofString "").cps (by decide +kernel)]
    obtain ⟨⟨x⟩⟩ := x
    simp
theorem rangeL_nat {n : Nat} : rangeL 0 (n : Nat) = (List.range n).map natD := by
  simp [rangeL]
theorem len_new {xs : List D} {h : Hh} : btD .len [.ref h.length] (h ++ [.lst xs]) = some (.int xs.length, h ++ [.lst xs]) := len_lst lst_new
theorem listR1 {n : Nat} {h : Hh} (l : n ≤ 1000000) : btD .listR1 [.int (n : Nat)] h = some (.ref h.length, h ++ [.lst ((List.range n).map natD)]) := by
  simp only [btD, rangeL_nat]
  rw [if_pos (by simp [okRange]; omega)]
  rfl
/-- one sign -/
abbrev sgD (c : Nat) : D := .str ⟨#[c]⟩
theorem join_sgs {sg : List Nat} (l : sg.length ≤ 100000) : joinD "" (sg.map sgD) = some ⟨sg.toArray⟩ := by
  have es : (Str.ofString "").length = 0 := by decide +kernel
  have en : ∀ xs : List Nat, (xs.map fun _ => 1).sum = xs.length := fun xs => by induction xs with
    | nil => rfl
    | cons x r ih => simp only [List.map_cons, List.sum_cons, List.length_cons, ih]; omega
  simp only [joinD, strs_map (f := fun c => (⟨#[c]⟩ : Str)), join_none, es, Nat.mul_zero]
  rw [if_pos (by
    have := en sg
    simp [Function.comp_def, Str.length, maxLen] at this ⊢
    omega)]
  simp [List.flatMap_map]
theorem join_new {sg : List Nat} {h : Hh} (l : sg.length ≤ 100000) : bmD .join (.str "") [.ref h.length] (h ++ [.lst (sg.map sgD)]) = some (.str ⟨sg.toArray⟩, h ++ [.lst (sg.map sgD)]) := by
  simp only [bmD, lst_new, Option.bind_some, join_sgs l, Option.map_some]
end Qw
end
section
set_option autoImplicit false
set_option Elab.async false
set_option linter.all false
set_option maxRecDepth 8000
set_option maxHeartbeats 4000000
/-! Q: how long the text of a value is. -/
namespace Q
open PySem
mutual
/-- may be shown -/
def D.shw : D → Bool
  | .int i => decide (i.natAbs.log2 < 1920)
  | .str x => x.cps.toList.all fun c => decide (c < 16 ^ 8)
  | .tup xs => D.shws xs
  | _ => true
def D.shws : List D → Bool
  | [] => true
  | x :: xs => D.shw x && D.shws xs
end
mutual
/-- no longer than that -/
def D.wt : D → Nat
  | .int i => i.natAbs.log2 + 2
  | .str x => 10 * x.length + 2
  | .tup xs => D.wts xs + 3
  | _ => 5
def D.wts : List D → Nat
  | [] => 0
  | x :: xs => D.wt x + 2 + D.wts xs
end
end Q
namespace Qw
open PySem Q
theorem core_len : ∀ (k fuel n : Nat) (ds : List Char), 1 ≤ k → n < 2 ^ k → (Nat.toDigitsCore 10 fuel n ds).length ≤ ds.length + k
  | _, 0, _, ds, _, _ => by simp [Nat.toDigitsCore]
  | k, fuel + 1, n, ds, hk, hn => by
    unfold Nat.toDigitsCore
    by_cases h0 : n / 10 = 0
    · simp only [h0, if_true, List.length_cons]; omega
    · simp only [h0, if_false]
      have hk2 : 2 ≤ k := by
        by_cases h1 : k = 1
        · subst h1; exfalso; apply h0; have : n < 2 := by simpa using hn
          omega
        · omega
      have hn' : n / 10 < 2 ^ (k - 1) := by
        have e : 2 ^ k = 2 ^ (k - 1) * 2 := by rw [← Nat.pow_succ]; congr 1; omega
        omega
      have ih := core_len (k - 1) fuel (n / 10) (Nat.digitChar (n % 10) :: ds) (by omega) hn'
      simp only [List.length_cons] at ih
      omega
theorem nat_len (n : Nat) : (PySem.Str.ofString (toString ((n : Nat) : Int))).length ≤ n.log2 + 1 := by
  show (PySem.Str.ofString (toString ((n : Nat) : Int))).cps.size ≤ _
  rw [← Array.length_toList, W.KIN.signs_num, List.length_map]
  have := core_len (n.log2 + 1) (n + 1) n [] (by omega) Nat.lt_log2_self
  simpa [Nat.toDigits] using this
theorem int_len (i : Int) : (PySem.Str.ofString (toString i)).length ≤ i.natAbs.log2 + 2 := by
  cases i with
  | ofNat n => exact Nat.le_trans (nat_len n) (by simp)
  | negSucc n =>
    have e : toString (Int.negSucc n) = "-" ++ toString ((n + 1 : Nat) : Int) := rfl
    have l : ∀ a b : String, (PySem.Str.ofString (a ++ b)).length = (PySem.Str.ofString a).length + (PySem.Str.ofString b).length := fun a b => by
      simp [Str.ofString_eq_toList, Str.length]
    rw [e, l]
    have := nat_len (n + 1)
    have e1 : (PySem.Str.ofString "-").length = 1 := by decide +kernel
    simp only [Int.natAbs_negSucc, Nat.succ_eq_add_one]
    omega
theorem len_app (a b : Str) : (a ++ b).length = a.length + b.length := by
  show (a.cps ++ b.cps).size = _
  simp [Str.length]
theorem join_len (sep : Str) (ts : List Str) : (Str.join sep ts).length ≤ (ts.map fun t => t.length + sep.length).sum := by
  have := StrLaws.join_length_le sep ts
  have e : (ts.map fun t => t.length + sep.length).sum = (ts.map (·.length)).sum + ts.length * sep.length := by
    clear this
    induction ts with
    | nil => simp
    | cons t r ih => simp only [List.map_cons, List.sum_cons, List.length_cons, ih, Nat.add_mul]; omega
  omega
theorem from_len : ∀ (ts : List Str) (k : Nat) (acc : Str), (textFrom k acc ts).length ≤ acc.length + (ts.map fun t => t.length + 2).sum
  | [], k, acc => by simp [textFrom]
  | t :: r, k, acc => by
    have e2 : ((", " : String) : Str).length = 2 := by decide +kernel
    have e0 : (("" : String) : Str).length = 0 := by decide +kernel
    have := from_len r (k + 1) (acc ++ (if k > 0 then ", " else "" : String) ++ t)
    simp only [len_app] at this
    simp only [textFrom, List.map_cons, List.sum_cons]
    have l2 : ((if k > 0 then ", " else "" : String) : Str).length ≤ 2 := by split <;> omega
    omega
mutual
theorem shown_len : ∀ d : D, d.pur = true → d.shw = true → d.py.showable = true ∧ d.py.shown.length ≤ d.wt
  | .non, _, _ => by
    have : ((("None" : String) : Str)).length ≤ 5 := by decide +kernel
    simp only [D.py, PyData.showable, PyData.shown, D.wt]; exact ⟨trivial, this⟩
  | .bl b, _, _ => by
    have h1 : ((("True" : String) : Str)).length ≤ 5 := by decide +kernel
    have h2 : ((("False" : String) : Str)).length ≤ 5 := by decide +kernel
    cases b <;> simp only [D.py, PyData.showable, PyData.shown, D.wt] <;> exact ⟨trivial, by assumption⟩
  | .int i, _, s => by
    simp only [D.py, PyData.showable, PyData.shown, D.wt]
    exact ⟨by simpa [D.shw] using s, int_len i⟩
  | .str x, _, s => by
    simp only [D.py, PyData.showable, PyData.shown, D.wt]
    simp only [D.shw, List.all_eq_true, decide_eq_true_eq] at s
    exact ⟨trivial, StrLaws.reprText_len x s⟩
  | .tup xs, p, s => by
    have := showns_len xs (by simpa [D.pur] using p) (by simpa [D.shw] using s)
    simp only [D.py, PyData.showable, PyData.shown, D.wt]
    refine ⟨this.1, ?_⟩
    unfold tupleText
    rw [len_app, len_app]
    have e1 : ((("(" : String) : Str)).length = 1 := by decide +kernel
    have e3 : (((if (PyData.shownAll (D.pys xs)).length == 1 then ",)" else ")" : String) : Str)).length ≤ 2 := by split <;> decide +kernel
    have e2 : ((", " : String) : Str).length = 2 := by decide +kernel
    have j := join_len ", " (PyData.shownAll (D.pys xs))
    rw [e2] at j
    omega
  | .ref _, p, _ => by simp [D.pur] at p
theorem showns_len : ∀ xs : List D, D.purs xs = true → D.shws xs = true → PyData.showableAll (D.pys xs) = true ∧ ((PyData.shownAll (D.pys xs)).map fun t => t.length + 2).sum ≤ D.wts xs
  | [], _, _ => by simp [D.pys, PyData.showableAll, PyData.shownAll, D.wts]
  | x :: xs, p, s => by
    simp only [D.purs, Bool.and_eq_true] at p
    simp only [D.shws, Bool.and_eq_true] at s
    have a := shown_len x p.1 s.1
    have b := showns_len xs p.2 s.2
    simp only [D.pys, PyData.showableAll, PyData.shownAll, D.wts, List.map_cons, List.sum_cons, a.1, b.1, Bool.and_self, true_and]
    omega
end
/-- the text of a list of values -/
def reprL (xs : List D) : Str := (PyData.list (D.pys xs)).shown
def reprT (d : D) : Str := d.py.shown
theorem repr_cell {h : Hh} {i : Nat} {xs : List D} (e : lstOf h (.ref i) = some xs) (o : okNs 59 xs = true) (s : D.shws xs = true) (l : D.wts xs ≤ 15000000) : btD .repr [.ref i] h = some (.str (reprL xs), h) := by
  have o' := o
  simp only [okNs, Bool.and_eq_true, decide_eq_true_eq] at o'
  have a := showns_len xs o'.1 s
  have c := can_purs xs o'.1
  have dp : (PyData.list (D.pys xs)).depth ≤ 64 := by
    simp only [PyData.depth, c.2]; omega
  have sl : (PyData.list (D.pys xs)).shown.length ≤ maxLen := by
    simp only [PyData.shown, listText]
    rw [len_app]
    have f := from_len (PyData.shownAll (D.pys xs)) 0 (("[" : String) : Str)
    have e1 : ((("[" : String) : Str)).length = 1 := by decide +kernel
    have e2 : ((("]" : String) : Str)).length = 1 := by decide +kernel
    simp only [maxLen]
    omega
  have sh : (PyData.list (D.pys xs)).showable = true := by simp only [PyData.showable]; exact a.1
  simp only [btD, reprD, deep, toPy_cell e o, sh, decide_eq_true dp, decide_eq_true sl, Bool.and_self, if_true, Option.map_some, reprL]
theorem repr_pure {h : Hh} {d : D} (o : okN 60 d = true) (s : d.shw = true) (l : d.wt ≤ 15000000) : btD .repr [d] h = some (.str (reprT d), h) := by
  have o' := o
  simp only [okN, Bool.and_eq_true, decide_eq_true_eq] at o'
  have a := shown_len d o'.1 s
  have c := can_pur d o'.1
  have dp : d.py.depth ≤ 64 := by rw [c.2]; omega
  have sl : d.py.shown.length ≤ maxLen := by simp only [maxLen]; omega
  have : btD .repr [d] h = (reprD h d).map fun x => (.str x, h) := by cases d <;> rfl
  rw [this]
  simp only [reprD, deep, toPy_ok o, a.1, decide_eq_true dp, decide_eq_true sl, Bool.and_self, if_true, Option.map_some, reprT]
theorem ne_str {P : Pg} {call : Call} {h : Hh} {x y : Str} : cmpO P call .ne (.str x) (.str y) h = .ok (.bl (!decide (x = y))) h := by rw [c_ne ok_str ok_str, peq_str]
theorem eq_str {P : Pg} {call : Call} {h : Hh} {x y : Str} : cmpO P call .eq (.str x) (.str y) h = .ok (.bl (decide (x = y))) h := by rw [c_eq ok_str ok_str, peq_str]
end Qw
end
section
set_option autoImplicit false
set_option Elab.async false
set_option linter.all false
set_option maxRecDepth 8000
set_option maxHeartbeats 4000000
/-! the deck of the laws k01 .. k10, k38 .. k41, k52 .. k54, k62 -/
namespace Qw
open PySem Q
/-- _law_draw, its numbers put in -/
def drawT (a1 a2 a3 a4 a5 a6 a7 a8 a9 a10 a11 : Int) : Ss := (.cons (.set (.sub (.slot 0) (.lit (.str "draws"))) (.op .add (.sub (.slot 0) (.lit (.str "draws"))) (.lit (.int 1))))
  (.cons (.set (.name 2) (.op .add (.sub (.slot 0) (.lit (.str "mixed"))) (.op .mul (.lit (.int a1)) (.sub (.slot 0) (.lit (.str "draws"))))))
  (.cons (.iff (.cmp .ne (.sub (.slot 0) (.lit (.str "left"))) (.lst .nil)) (.cons (.set (.name 3) (.bm .pop (.sub (.slot 0) (.lit (.str "left"))) .nil))
   (.cons (.iff (.cmp .ge (.slot 3) (.op .pow (.lit (.int 10)) (.lit (.int 18)))) (.cons (.expr (.bm .append (.sub (.slot 0) (.lit (.str "left"))) (.cons (.op .fdiv (.slot 3) (.slot 1)) .nil)))
    (.cons (.ret (.blt .int (.cons (.op .mod (.slot 3) (.slot 1)) .nil)))
    .nil)) .nil)
   (.cons (.set (.name 2) (.op .add (.slot 2) (.op .mod (.blt .int (.cons (.slot 3) .nil)) (.lit (.int a2)))))
   .nil))) .nil)
  (.cons (.set (.name 2) (.op .mod (.blt .int (.cons (.op .add (.op .mul (.slot 2) (.lit (.int a3))) (.lit (.int a4))) .nil)) (.lit (.int a5))))
  (.cons (.set (.name 2) (.op .mod (.blt .int (.cons (.op .add (.op .add (.op .mul (.slot 2) (.slot 2)) (.op .mul (.lit (.int a6)) (.sub (.slot 0) (.lit (.str "draws"))))) (.lit (.int a7))) .nil)) (.lit (.int a8))))
  (.cons (.ret (.blt .int (.cons (.op .mod (.op .fdiv (.op .mod (.op .mul (.slot 2) (.lit (.int a9))) (.lit (.int a10))) (.lit (.int a11))) (.slot 1)) .nil)))
  .nil))))))
def kLeft : D := .str "left"
def kMixed : D := .str "mixed"
def kDraws : D := .str "draws"
abbrev deckC (j : Nat) (m n : Int) : C := .dct [(kLeft, .ref j), (kMixed, .int m), (kDraws, .int n)]
/-- a deck at i, its numbers that are left at j -/
def Deck (h : Hh) (i j : Nat) : Prop := i ≠ j ∧ ∃ (m n : Int) (xs : List Int), h[i]? = some (deckC j m n) ∧ h[j]? = some (.lst (xs.map .int)) ∧ xs.length < 100
theorem Deck.same {h h1 : Hh} {i j : Nat} (d : Deck h i j) (s : Same h h1 []) : Deck h1 i j := by
  obtain ⟨ne, m, n, xs, a, b, c⟩ := d
  exact ⟨ne, m, n, xs, s.get0 a, s.get0 b, c⟩
section
variable {P : Pg} {call : Call} {X : Ex} {h : Hh} {i j : Nat} {m n : Int}
theorem deck_sub (hi : h[i]? = some (deckC j m n)) : subD h (.ref i) (.str "draws") = some (.int n) ∧ subD h (.ref i) (.str "mixed") = some (.int m) ∧ subD h (.ref i) (.str "left") = some (.ref j) :=
  ⟨(sub_txt hi rfl).trans rfl, (sub_txt hi rfl).trans rfl, (sub_txt hi rfl).trans rfl⟩
theorem deck_set (hi : h[i]? = some (deckC j m n)) {v : Int} : setD h (.ref i) (.str "draws") (.int v) = some (h.set i (deckC j m v)) := (set_txt hi rfl (by show 3 < maxLen; decide)).trans rfl
theorem okInts {xs : List Int} {n : Nat} : okNs n (xs.map .int) = true := oks_all.mpr fun x hx => by
  obtain ⟨a, _, rfl⟩ := List.mem_map.mp hx
  exact ok_int
theorem ne_nil {xs : List D} {a : Nat} (e : h[a]? = some (.lst xs)) (o : okNs 59 xs = true) : cmpO P call .ne (.ref a) (.ref h.length) (h ++ [.lst []]) = .ok (.bl (!xs.isEmpty)) (h ++ [.lst []]) := by
  rw [c_neC (lst_get (same_new.get0 e)) lst_new o oks_nil]
  cases xs <;> simp [peqs_nil, peqs_cn]
theorem eq_nil {xs : List D} {a : Nat} (e : h[a]? = some (.lst xs)) (o : okNs 59 xs = true) : cmpO P call .eq (.ref a) (.ref h.length) (h ++ [.lst []]) = .ok (.bl xs.isEmpty) (h ++ [.lst []]) := by
  rw [c_eqC (lst_get (same_new.get0 e)) lst_new o oks_nil]
  cases xs <;> simp [peqs_nil, peqs_cn]
theorem pow18 : opI .pow 10 18 = some (10 ^ 18) := rfl
/-- a draw -/
theorem draw_ok {b a1 a2 a3 a4 a5 a6 a7 a8 a9 a10 a11 : Int} {Q : Fl × Sl → Hh → Prop} (num : small a1 = true ∧ a2 ≠ 0 ∧ small a3 = true ∧ (0 < a5 ∧ a5 < 2 ^ 64) ∧ small a6 = true ∧ (0 < a8 ∧ a8 < 2 ^ 64) ∧ small a9 = true ∧ 0 < a10 ∧ (0 < a11 ∧ a11 < 1073741824))
    (hb : 0 < b ∧ b < 1073741824) (dk : Deck h i j) (q : ∀ (r : Nat) (σ : Sl) (h1 : Hh), (r : Int) < b → Deck h1 i j → Same h h1 [i, j] → Q (.rt (.int r), σ) h1) :
    Wk X Q (evSs P call (drawT a1 a2 a3 a4 a5 a6 a7 a8 a9 a10 a11) [some (.ref i), some (.int b), none, none] h) := by
  obtain ⟨c1, c2, h3, h5, h6, h8, h9, h10, h11⟩ := num
  obtain ⟨ne, m, n, xs, hi, hj, hl⟩ := dk
  have e5 : a5 ≠ 0 := by omega
  have e8 : a8 ≠ 0 := by omega
  have e10 : a10 ≠ 0 := by omega
  have e11 : a11 ≠ 0 := by omega
  have eb : b ≠ 0 := by omega
  have nb : b.natAbs < 1073741824 := by omega
  have n11 : a11.natAbs < 1073741824 := by omega
  have sq : ∀ z, small (Int.fmod z a5) = true := fun z => by
    have h1 := Int.fmod_nonneg_of_pos z h5.1
    have h2 := Int.fmod_lt_of_pos z h5.1
    simp only [small, decide_eq_true_eq]
    omega
  have fin : ∀ z : Int, ∃ r : Nat, z.fmod b = r ∧ (r : Int) < b := fun z => by
    have h1 := Int.fmod_nonneg_of_pos z hb.1
    have h2 := Int.fmod_lt_of_pos z hb.1
    exact ⟨(z.fmod b).toNat, by omega, by omega⟩
  obtain ⟨d1, d2, d3⟩ := deck_sub hi
  unfold drawT
  have li := lt_of_get hi
  have lj := lt_of_get hj
  have hi2 : (h.set i (deckC j m (n + 1)))[i]? = some (deckC j m (n + 1)) := List.getElem?_set_self li
  have hj2 : (h.set i (deckC j m (n + 1)))[j]? = some (.lst (xs.map .int)) := by rw [List.getElem?_set_ne ne]; exact hj
  have sm : Same h (h.set i (deckC j m (n + 1))) [i, j] := Same.refl.set (.inl (by simp))
  simp -dsimp -failIfUnchanged only [↓wsq_n, ↓wsq_r, ↓wfin_n, ↓wfin_r, ↓ws_nil, ↓ws_cons, ↓ws_expr, ↓ws_set, ↓ws_ret, ↓ws_iff, ↓ws_pass, ↓ws_fb, ↓ws_for, ↓ws_while, ↓ws_wc, ↓ws_wb, ↓wt_tup, ↓wt_nil, ↓wt_cons, ↓wt_sub, ↓wt_fld, ↓we_slot, ↓we_lit, ↓we_op, ↓we_cmp, ↓we_chain, ↓we_nt, ↓we_neg, ↓we_an, ↓we_orr, ↓we_ite, ↓we_tup, ↓we_lst, ↓we_dct, ↓we_sub, ↓we_slc, ↓we_rev, ↓we_fld, ↓we_call, ↓wmk_n, ↓we_mk, ↓we_meth, ↓we_blt, ↓we_bm, ↓we_lc, ↓wes_nil, ↓wes_cons, ↓wes_star, ↓wts_nil, ↓wts_cons, ↓wo_none, ↓wo_some, ↓wi_e, ↓wi_r1, ↓wi_r2, ↓wi_enum, ↓wi_enumS, ↓wi_zip, ↓wnx_n, ↓wnx_r, ↓blq, ↓v_kindS, ↓wb_join, ↓wb_app, ↓wb_pop, ↓wb_ext, ↓wo_lift, ↓x_name, ↓x_lb, ↓x_aug, ↓x_isi, ↓v_isI, ↓v_isB, ↓v_isS, ↓v_isT, ↓v_lenT, ↓v_int, ↓v_max2, ↓v_all, ↓v_any, ↓v_tupL, ↓v_disp0, ↓wk_ok, ↓wo_s, ↓wp_s, ↓wi_i, ↓v_slot0, ↓v_slotS, ↓ss_0, ↓ss_S, ↓sr_n, ↓sr_c, ↓sw_n, ↓sw_c, ↓v_opI, ↓v_add, ↓v_sub, ↓v_tr, ↓v_trO, ↓wf_t, ↓wf_f, ↓v_ix0, ↓v_ix1, ↓v_ix2, ↓v_ix3, ↓v_ix4, ↓v_ix5, ↓v_src, ↓v_perm, ↓wn_0, ↓wn_S, ↓wn_a0, ↓wn_aS, ↓wn_an, ↓dr_n, ↓dr_c, ↓wr_n, ↓wr_c, c_eqI, c_neI, c_ltI, c_gtI, c_leI, c_geI, d_ltI, d_gtI, d_leI, d_geI, c_isN, c_isntN, kindS, items_tup, true_and, and_true, ln_0, ln_1, ln_2, ln_3, ln_4, ln_5, ln_6, ln_7, ln_8, ln_9, ln_10, ln_11, ln_12, ln_13, ln_14, ln_15, ln_16, ln_17, ln_18, ln_19, ln_20, d1, deck_set hi]
  generalize h.set i (deckC j m (n + 1)) = g at hi2 hj2 sm ⊢
  obtain ⟨d1, d2, d3⟩ := deck_sub hi2
  have nn := ne_nil (P := P) (call := call) hj2 okInts
  simp -dsimp -failIfUnchanged only [↓wsq_n, ↓wsq_r, ↓wfin_n, ↓wfin_r, ↓ws_nil, ↓ws_cons, ↓ws_expr, ↓ws_set, ↓ws_ret, ↓ws_iff, ↓ws_pass, ↓ws_fb, ↓ws_for, ↓ws_while, ↓ws_wc, ↓ws_wb, ↓wt_tup, ↓wt_nil, ↓wt_cons, ↓wt_sub, ↓wt_fld, ↓we_slot, ↓we_lit, ↓we_op, ↓we_cmp, ↓we_chain, ↓we_nt, ↓we_neg, ↓we_an, ↓we_orr, ↓we_ite, ↓we_tup, ↓we_lst, ↓we_dct, ↓we_sub, ↓we_slc, ↓we_rev, ↓we_fld, ↓we_call, ↓wmk_n, ↓we_mk, ↓we_meth, ↓we_blt, ↓we_bm, ↓we_lc, ↓wes_nil, ↓wes_cons, ↓wes_star, ↓wts_nil, ↓wts_cons, ↓wo_none, ↓wo_some, ↓wi_e, ↓wi_r1, ↓wi_r2, ↓wi_enum, ↓wi_enumS, ↓wi_zip, ↓wnx_n, ↓wnx_r, ↓blq, ↓v_kindS, ↓wb_join, ↓wb_app, ↓wb_pop, ↓wb_ext, ↓wo_lift, ↓x_name, ↓x_lb, ↓x_aug, ↓x_isi, ↓v_isI, ↓v_isB, ↓v_isS, ↓v_isT, ↓v_lenT, ↓v_int, ↓v_max2, ↓v_all, ↓v_any, ↓v_tupL, ↓v_disp0, ↓wk_ok, ↓wo_s, ↓wp_s, ↓wi_i, ↓v_slot0, ↓v_slotS, ↓ss_0, ↓ss_S, ↓sr_n, ↓sr_c, ↓sw_n, ↓sw_c, ↓v_opI, ↓v_add, ↓v_sub, ↓v_tr, ↓v_trO, ↓wf_t, ↓wf_f, ↓v_ix0, ↓v_ix1, ↓v_ix2, ↓v_ix3, ↓v_ix4, ↓v_ix5, ↓v_src, ↓v_perm, ↓wn_0, ↓wn_S, ↓wn_a0, ↓wn_aS, ↓wn_an, ↓dr_n, ↓dr_c, ↓wr_n, ↓wr_c, c_eqI, c_neI, c_ltI, c_gtI, c_leI, c_geI, d_ltI, d_gtI, d_leI, d_geI, c_isN, c_isntN, kindS, items_tup, true_and, and_true, ln_0, ln_1, ln_2, ln_3, ln_4, ln_5, ln_6, ln_7, ln_8, ln_9, ln_10, ln_11, ln_12, ln_13, ln_14, ln_15, ln_16, ln_17, ln_18, ln_19, ln_20, d1, d2, d3, o_mulL c1, nn]
  have hi3 := (same_new (c := .lst [])).get0 hi2
  have hj3 := (same_new (c := .lst [])).get0 hj2
  have sm3 := sm.new (c := .lst [])
  generalize g ++ [C.lst []] = g3 at hi3 hj3 sm3 ⊢
  obtain ⟨d1, d2, d3⟩ := deck_sub hi3
  refine wf_i (fun e => ?_) (fun e => ?_)
  · obtain ⟨ys, c, rfl⟩ : ∃ ys c, xs = ys ++ [c] := by
      cases hx : xs.reverse with
      | nil => simp at hx; subst hx; simp at e
      | cons c r => exact ⟨r.reverse, c, by rw [← List.reverse_reverse (as := xs), hx]; simp⟩
    have pop : bmD .pop (.ref j) [] g3 = some (.int c, g3.set j (.lst (ys.map .int))) := by
      simp [bmD, hj3]
    simp -dsimp -failIfUnchanged only [↓wsq_n, ↓wsq_r, ↓wfin_n, ↓wfin_r, ↓ws_nil, ↓ws_cons, ↓ws_expr, ↓ws_set, ↓ws_ret, ↓ws_iff, ↓ws_pass, ↓ws_fb, ↓ws_for, ↓ws_while, ↓ws_wc, ↓ws_wb, ↓wt_tup, ↓wt_nil, ↓wt_cons, ↓wt_sub, ↓wt_fld, ↓we_slot, ↓we_lit, ↓we_op, ↓we_cmp, ↓we_chain, ↓we_nt, ↓we_neg, ↓we_an, ↓we_orr, ↓we_ite, ↓we_tup, ↓we_lst, ↓we_dct, ↓we_sub, ↓we_slc, ↓we_rev, ↓we_fld, ↓we_call, ↓wmk_n, ↓we_mk, ↓we_meth, ↓we_blt, ↓we_bm, ↓we_lc, ↓wes_nil, ↓wes_cons, ↓wes_star, ↓wts_nil, ↓wts_cons, ↓wo_none, ↓wo_some, ↓wi_e, ↓wi_r1, ↓wi_r2, ↓wi_enum, ↓wi_enumS, ↓wi_zip, ↓wnx_n, ↓wnx_r, ↓blq, ↓v_kindS, ↓wb_join, ↓wb_app, ↓wb_pop, ↓wb_ext, ↓wo_lift, ↓x_name, ↓x_lb, ↓x_aug, ↓x_isi, ↓v_isI, ↓v_isB, ↓v_isS, ↓v_isT, ↓v_lenT, ↓v_int, ↓v_max2, ↓v_all, ↓v_any, ↓v_tupL, ↓v_disp0, ↓wk_ok, ↓wo_s, ↓wp_s, ↓wi_i, ↓v_slot0, ↓v_slotS, ↓ss_0, ↓ss_S, ↓sr_n, ↓sr_c, ↓sw_n, ↓sw_c, ↓v_opI, ↓v_add, ↓v_sub, ↓v_tr, ↓v_trO, ↓wf_t, ↓wf_f, ↓v_ix0, ↓v_ix1, ↓v_ix2, ↓v_ix3, ↓v_ix4, ↓v_ix5, ↓v_src, ↓v_perm, ↓wn_0, ↓wn_S, ↓wn_a0, ↓wn_aS, ↓wn_an, ↓dr_n, ↓dr_c, ↓wr_n, ↓wr_c, c_eqI, c_neI, c_ltI, c_gtI, c_leI, c_geI, d_ltI, d_gtI, d_leI, d_geI, c_isN, c_isntN, kindS, items_tup, true_and, and_true, ln_0, ln_1, ln_2, ln_3, ln_4, ln_5, ln_6, ln_7, ln_8, ln_9, ln_10, ln_11, ln_12, ln_13, ln_14, ln_15, ln_16, ln_17, ln_18, ln_19, ln_20, d3, kind_lst hj3, bmK, pop]
    have hj4 : (g3.set j (.lst (ys.map .int)))[j]? = some (.lst (ys.map .int)) := set_get hj3
    have hi4 : (g3.set j (.lst (ys.map .int)))[i]? = some (deckC j m (n + 1)) := by rw [List.getElem?_set_ne (Ne.symm ne)]; exact hi3
    have sm4 : Same h (g3.set j (.lst (ys.map .int))) [i, j] := sm3.set (.inl (by simp))
    generalize g3.set j (.lst (ys.map .int)) = g4 at hi4 hj4 sm4 ⊢
    obtain ⟨d1, d2, d3⟩ := deck_sub hi4
    simp only [List.length_append, List.length_cons, List.length_nil] at hl
    simp -dsimp -failIfUnchanged only [↓wsq_n, ↓wsq_r, ↓wfin_n, ↓wfin_r, ↓ws_nil, ↓ws_cons, ↓ws_expr, ↓ws_set, ↓ws_ret, ↓ws_iff, ↓ws_pass, ↓ws_fb, ↓ws_for, ↓ws_while, ↓ws_wc, ↓ws_wb, ↓wt_tup, ↓wt_nil, ↓wt_cons, ↓wt_sub, ↓wt_fld, ↓we_slot, ↓we_lit, ↓we_op, ↓we_cmp, ↓we_chain, ↓we_nt, ↓we_neg, ↓we_an, ↓we_orr, ↓we_ite, ↓we_tup, ↓we_lst, ↓we_dct, ↓we_sub, ↓we_slc, ↓we_rev, ↓we_fld, ↓we_call, ↓wmk_n, ↓we_mk, ↓we_meth, ↓we_blt, ↓we_bm, ↓we_lc, ↓wes_nil, ↓wes_cons, ↓wes_star, ↓wts_nil, ↓wts_cons, ↓wo_none, ↓wo_some, ↓wi_e, ↓wi_r1, ↓wi_r2, ↓wi_enum, ↓wi_enumS, ↓wi_zip, ↓wnx_n, ↓wnx_r, ↓blq, ↓v_kindS, ↓wb_join, ↓wb_app, ↓wb_pop, ↓wb_ext, ↓wo_lift, ↓x_name, ↓x_lb, ↓x_aug, ↓x_isi, ↓v_isI, ↓v_isB, ↓v_isS, ↓v_isT, ↓v_lenT, ↓v_int, ↓v_max2, ↓v_all, ↓v_any, ↓v_tupL, ↓v_disp0, ↓wk_ok, ↓wo_s, ↓wp_s, ↓wi_i, ↓v_slot0, ↓v_slotS, ↓ss_0, ↓ss_S, ↓sr_n, ↓sr_c, ↓sw_n, ↓sw_c, ↓v_opI, ↓v_add, ↓v_sub, ↓v_tr, ↓v_trO, ↓wf_t, ↓wf_f, ↓v_ix0, ↓v_ix1, ↓v_ix2, ↓v_ix3, ↓v_ix4, ↓v_ix5, ↓v_src, ↓v_perm, ↓wn_0, ↓wn_S, ↓wn_a0, ↓wn_aS, ↓wn_an, ↓dr_n, ↓dr_c, ↓wr_n, ↓wr_c, c_eqI, c_neI, c_ltI, c_gtI, c_leI, c_geI, d_ltI, d_gtI, d_leI, d_geI, c_isN, c_isntN, kindS, items_tup, true_and, and_true, ln_0, ln_1, ln_2, ln_3, ln_4, ln_5, ln_6, ln_7, ln_8, ln_9, ln_10, ln_11, ln_12, ln_13, ln_14, ln_15, ln_16, ln_17, ln_18, ln_19, ln_20, pow18]
    refine wf_i (fun e2 => ?_) (fun e2 => ?_)
    · have psh : bmD .append (.ref j) [.int (c.fdiv b)] g4 = some (.non, g4.set j (.lst ((ys ++ [c.fdiv b]).map .int))) := by
        rw [push_lst hj4 (by simp [maxLen]; omega)]; simp
      simp -dsimp -failIfUnchanged only [↓wsq_n, ↓wsq_r, ↓wfin_n, ↓wfin_r, ↓ws_nil, ↓ws_cons, ↓ws_expr, ↓ws_set, ↓ws_ret, ↓ws_iff, ↓ws_pass, ↓ws_fb, ↓ws_for, ↓ws_while, ↓ws_wc, ↓ws_wb, ↓wt_tup, ↓wt_nil, ↓wt_cons, ↓wt_sub, ↓wt_fld, ↓we_slot, ↓we_lit, ↓we_op, ↓we_cmp, ↓we_chain, ↓we_nt, ↓we_neg, ↓we_an, ↓we_orr, ↓we_ite, ↓we_tup, ↓we_lst, ↓we_dct, ↓we_sub, ↓we_slc, ↓we_rev, ↓we_fld, ↓we_call, ↓wmk_n, ↓we_mk, ↓we_meth, ↓we_blt, ↓we_bm, ↓we_lc, ↓wes_nil, ↓wes_cons, ↓wes_star, ↓wts_nil, ↓wts_cons, ↓wo_none, ↓wo_some, ↓wi_e, ↓wi_r1, ↓wi_r2, ↓wi_enum, ↓wi_enumS, ↓wi_zip, ↓wnx_n, ↓wnx_r, ↓blq, ↓v_kindS, ↓wb_join, ↓wb_app, ↓wb_pop, ↓wb_ext, ↓wo_lift, ↓x_name, ↓x_lb, ↓x_aug, ↓x_isi, ↓v_isI, ↓v_isB, ↓v_isS, ↓v_isT, ↓v_lenT, ↓v_int, ↓v_max2, ↓v_all, ↓v_any, ↓v_tupL, ↓v_disp0, ↓wk_ok, ↓wo_s, ↓wp_s, ↓wi_i, ↓v_slot0, ↓v_slotS, ↓ss_0, ↓ss_S, ↓sr_n, ↓sr_c, ↓sw_n, ↓sw_c, ↓v_opI, ↓v_add, ↓v_sub, ↓v_tr, ↓v_trO, ↓wf_t, ↓wf_f, ↓v_ix0, ↓v_ix1, ↓v_ix2, ↓v_ix3, ↓v_ix4, ↓v_ix5, ↓v_src, ↓v_perm, ↓wn_0, ↓wn_S, ↓wn_a0, ↓wn_aS, ↓wn_an, ↓dr_n, ↓dr_c, ↓wr_n, ↓wr_c, c_eqI, c_neI, c_ltI, c_gtI, c_leI, c_geI, d_ltI, d_gtI, d_leI, d_geI, c_isN, c_isntN, kindS, items_tup, true_and, and_true, ln_0, ln_1, ln_2, ln_3, ln_4, ln_5, ln_6, ln_7, ln_8, ln_9, ln_10, ln_11, ln_12, ln_13, ln_14, ln_15, ln_16, ln_17, ln_18, ln_19, ln_20, d3, kind_lst hj4, bmK, o_div eb nb, psh, o_mod eb]
      obtain ⟨r, er, lr⟩ := fin c
      rw [er]
      refine q r _ _ lr ⟨ne, m, n + 1, ys ++ [c.fdiv b], ?_, set_get hj4, by simp; omega⟩ (sm4.set (.inl (by simp)))
      rw [List.getElem?_set_ne (Ne.symm ne)]; exact hi4
    · simp -dsimp -failIfUnchanged only [↓wsq_n, ↓wsq_r, ↓wfin_n, ↓wfin_r, ↓ws_nil, ↓ws_cons, ↓ws_expr, ↓ws_set, ↓ws_ret, ↓ws_iff, ↓ws_pass, ↓ws_fb, ↓ws_for, ↓ws_while, ↓ws_wc, ↓ws_wb, ↓wt_tup, ↓wt_nil, ↓wt_cons, ↓wt_sub, ↓wt_fld, ↓we_slot, ↓we_lit, ↓we_op, ↓we_cmp, ↓we_chain, ↓we_nt, ↓we_neg, ↓we_an, ↓we_orr, ↓we_ite, ↓we_tup, ↓we_lst, ↓we_dct, ↓we_sub, ↓we_slc, ↓we_rev, ↓we_fld, ↓we_call, ↓wmk_n, ↓we_mk, ↓we_meth, ↓we_blt, ↓we_bm, ↓we_lc, ↓wes_nil, ↓wes_cons, ↓wes_star, ↓wts_nil, ↓wts_cons, ↓wo_none, ↓wo_some, ↓wi_e, ↓wi_r1, ↓wi_r2, ↓wi_enum, ↓wi_enumS, ↓wi_zip, ↓wnx_n, ↓wnx_r, ↓blq, ↓v_kindS, ↓wb_join, ↓wb_app, ↓wb_pop, ↓wb_ext, ↓wo_lift, ↓x_name, ↓x_lb, ↓x_aug, ↓x_isi, ↓v_isI, ↓v_isB, ↓v_isS, ↓v_isT, ↓v_lenT, ↓v_int, ↓v_max2, ↓v_all, ↓v_any, ↓v_tupL, ↓v_disp0, ↓wk_ok, ↓wo_s, ↓wp_s, ↓wi_i, ↓v_slot0, ↓v_slotS, ↓ss_0, ↓ss_S, ↓sr_n, ↓sr_c, ↓sw_n, ↓sw_c, ↓v_opI, ↓v_add, ↓v_sub, ↓v_tr, ↓v_trO, ↓wf_t, ↓wf_f, ↓v_ix0, ↓v_ix1, ↓v_ix2, ↓v_ix3, ↓v_ix4, ↓v_ix5, ↓v_src, ↓v_perm, ↓wn_0, ↓wn_S, ↓wn_a0, ↓wn_aS, ↓wn_an, ↓dr_n, ↓dr_c, ↓wr_n, ↓wr_c, c_eqI, c_neI, c_ltI, c_gtI, c_leI, c_geI, d_ltI, d_gtI, d_leI, d_geI, c_isN, c_isntN, kindS, items_tup, true_and, and_true, ln_0, ln_1, ln_2, ln_3, ln_4, ln_5, ln_6, ln_7, ln_8, ln_9, ln_10, ln_11, ln_12, ln_13, ln_14, ln_15, ln_16, ln_17, ln_18, ln_19, ln_20, o_mod c2, o_mulR h3, o_mod e5, o_mulL (sq _), o_mulL h6, d1, o_mod e8, o_mulR h9, o_mod e10, o_div e11 n11, o_mod eb]
      obtain ⟨r, er, lr⟩ := fin _
      rw [er]
      exact q r _ _ lr ⟨ne, m, n + 1, ys, hi4, hj4, by omega⟩ sm4
  · simp -dsimp -failIfUnchanged only [↓wsq_n, ↓wsq_r, ↓wfin_n, ↓wfin_r, ↓ws_nil, ↓ws_cons, ↓ws_expr, ↓ws_set, ↓ws_ret, ↓ws_iff, ↓ws_pass, ↓ws_fb, ↓ws_for, ↓ws_while, ↓ws_wc, ↓ws_wb, ↓wt_tup, ↓wt_nil, ↓wt_cons, ↓wt_sub, ↓wt_fld, ↓we_slot, ↓we_lit, ↓we_op, ↓we_cmp, ↓we_chain, ↓we_nt, ↓we_neg, ↓we_an, ↓we_orr, ↓we_ite, ↓we_tup, ↓we_lst, ↓we_dct, ↓we_sub, ↓we_slc, ↓we_rev, ↓we_fld, ↓we_call, ↓wmk_n, ↓we_mk, ↓we_meth, ↓we_blt, ↓we_bm, ↓we_lc, ↓wes_nil, ↓wes_cons, ↓wes_star, ↓wts_nil, ↓wts_cons, ↓wo_none, ↓wo_some, ↓wi_e, ↓wi_r1, ↓wi_r2, ↓wi_enum, ↓wi_enumS, ↓wi_zip, ↓wnx_n, ↓wnx_r, ↓blq, ↓v_kindS, ↓wb_join, ↓wb_app, ↓wb_pop, ↓wb_ext, ↓wo_lift, ↓x_name, ↓x_lb, ↓x_aug, ↓x_isi, ↓v_isI, ↓v_isB, ↓v_isS, ↓v_isT, ↓v_lenT, ↓v_int, ↓v_max2, ↓v_all, ↓v_any, ↓v_tupL, ↓v_disp0, ↓wk_ok, ↓wo_s, ↓wp_s, ↓wi_i, ↓v_slot0, ↓v_slotS, ↓ss_0, ↓ss_S, ↓sr_n, ↓sr_c, ↓sw_n, ↓sw_c, ↓v_opI, ↓v_add, ↓v_sub, ↓v_tr, ↓v_trO, ↓wf_t, ↓wf_f, ↓v_ix0, ↓v_ix1, ↓v_ix2, ↓v_ix3, ↓v_ix4, ↓v_ix5, ↓v_src, ↓v_perm, ↓wn_0, ↓wn_S, ↓wn_a0, ↓wn_aS, ↓wn_an, ↓dr_n, ↓dr_c, ↓wr_n, ↓wr_c, c_eqI, c_neI, c_ltI, c_gtI, c_leI, c_geI, d_ltI, d_gtI, d_leI, d_geI, c_isN, c_isntN, kindS, items_tup, true_and, and_true, ln_0, ln_1, ln_2, ln_3, ln_4, ln_5, ln_6, ln_7, ln_8, ln_9, ln_10, ln_11, ln_12, ln_13, ln_14, ln_15, ln_16, ln_17, ln_18, ln_19, ln_20, o_mod c2, o_mulR h3, o_mod e5, o_mulL (sq _), o_mulL h6, d1, o_mod e8, o_mulR h9, o_mod e10, o_div e11 n11, o_mod eb]
    obtain ⟨r, er, lr⟩ := fin _
    rw [er]
    exact q r _ _ lr ⟨ne, m, n + 1, xs, hi3, hj3, hl⟩ sm3
/-- _law_deck -/
def deckT (s a b c d : Int) : Ss := (.cons (.set (.name 1) (.lit (.int s)))
  (.cons (.for_ (.name 2) (.e (.slc (.slot 0) .none (.some (.lit (.int 63))))) (.cons (.set (.name 1) (.op .mod (.blt .int (.cons (.op .add (.op .add (.op .mul (.slot 1) (.lit (.int a))) (.op .mod (.blt .int (.cons (.slot 2) .nil)) (.lit (.int b)))) (.lit (.int c))) .nil)) (.lit (.int d))))
   .nil))
  (.cons (.ret (.dct (.cons (.lit (.str "left")) (.cons (.rev (.blt .list (.cons (.slc (.slot 0) .none (.some (.lit (.int 63)))) .nil))) (.cons (.lit (.str "mixed")) (.cons (.slot 1) (.cons (.lit (.str "draws")) (.cons (.lit (.int 0)) .nil))))))))
  .nil)))
theorem disp_deck {a : D} {m n : Int} : dispD [.str "left", a, .str "mixed", .int m, .str "draws", .int n] = some [(kLeft, a), (kMixed, .int m), (kDraws, .int n)] := rfl
theorem deck_ok {s a b c d : Int} {x0 : Nat} {ns : List Int} {Q : Fl × Sl → Hh → Prop} (num : small a = true ∧ b ≠ 0 ∧ d ≠ 0) (h0 : lstOf h (.ref x0) = some (ns.map .int))
    (q : ∀ (σ : Sl) (h1 : Hh) (i j : Nat), Deck h1 i j → h.length ≤ i → h.length ≤ j → Same h h1 [] → Q (.rt (.ref i), σ) h1) :
    Wk X Q (evSs P call (deckT s a b c d) [some (.ref x0), none, none] h) := by
  obtain ⟨n1, n2, n3⟩ := num
  unfold deckT
  have e63 : (63 : Int).toNat = 63 := rfl
  have up : ∀ {h1 : Hh}, Same h h1 [] → lstOf h1 (.ref x0) = some (ns.map .int) := fun {h1} s => by
    have hl : x0 < h.length := by
      simp only [lstOf] at h0
      cases g : h[x0]? with
      | none => rw [g] at h0; simp at h0
      | some c => exact lt_of_get g
    simp only [lstOf, s.2 x0 hl (by simp)] at h0 ⊢
    exact h0
  simp -dsimp -failIfUnchanged only [↓wsq_n, ↓wsq_r, ↓wfin_n, ↓wfin_r, ↓ws_nil, ↓ws_cons, ↓ws_expr, ↓ws_set, ↓ws_ret, ↓ws_iff, ↓ws_pass, ↓ws_fb, ↓ws_for, ↓ws_while, ↓ws_wc, ↓ws_wb, ↓wt_tup, ↓wt_nil, ↓wt_cons, ↓wt_sub, ↓wt_fld, ↓we_slot, ↓we_lit, ↓we_op, ↓we_cmp, ↓we_chain, ↓we_nt, ↓we_neg, ↓we_an, ↓we_orr, ↓we_ite, ↓we_tup, ↓we_lst, ↓we_dct, ↓we_sub, ↓we_slc, ↓we_rev, ↓we_fld, ↓we_call, ↓wmk_n, ↓we_mk, ↓we_meth, ↓we_blt, ↓we_bm, ↓we_lc, ↓wes_nil, ↓wes_cons, ↓wes_star, ↓wts_nil, ↓wts_cons, ↓wo_none, ↓wo_some, ↓wi_e, ↓wi_r1, ↓wi_r2, ↓wi_enum, ↓wi_enumS, ↓wi_zip, ↓wnx_n, ↓wnx_r, ↓blq, ↓v_kindS, ↓wb_join, ↓wb_app, ↓wb_pop, ↓wb_ext, ↓wo_lift, ↓x_name, ↓x_lb, ↓x_aug, ↓x_isi, ↓v_isI, ↓v_isB, ↓v_isS, ↓v_isT, ↓v_lenT, ↓v_int, ↓v_max2, ↓v_all, ↓v_any, ↓v_tupL, ↓v_disp0, ↓wk_ok, ↓wo_s, ↓wp_s, ↓wi_i, ↓v_slot0, ↓v_slotS, ↓ss_0, ↓ss_S, ↓sr_n, ↓sr_c, ↓sw_n, ↓sw_c, ↓v_opI, ↓v_add, ↓v_sub, ↓v_tr, ↓v_trO, ↓wf_t, ↓wf_f, ↓v_ix0, ↓v_ix1, ↓v_ix2, ↓v_ix3, ↓v_ix4, ↓v_ix5, ↓v_src, ↓v_perm, ↓wn_0, ↓wn_S, ↓wn_a0, ↓wn_aS, ↓wn_an, ↓dr_n, ↓dr_c, ↓wr_n, ↓wr_c, c_eqI, c_neI, c_ltI, c_gtI, c_leI, c_geI, d_ltI, d_gtI, d_leI, d_geI, c_isN, c_isntN, kindS, items_tup, true_and, and_true, ln_0, ln_1, ln_2, ln_3, ln_4, ln_5, ln_6, ln_7, ln_8, ln_9, ln_10, ln_11, ln_12, ln_13, ln_14, ln_15, ln_16, ln_17, ln_18, ln_19, ln_20, slc_lto (i := 63) h0 (by decide), e63, src_lst lst_new]
  refine w_forC (xs := (ns.map D.int).take 63) rfl (fun _ _ σ h1 => ∃ z v, σ = [some (.ref x0), some (.int z), v] ∧ Same (h ++ [.lst ((ns.map D.int).take 63)]) h1 []) ?_ ?_ ?_ ⟨_, _, rfl, Same.refl⟩
  · rintro a r σ h1 ⟨z, v, rfl, s1⟩
    exact lst_get (s1.get0 new_get)
  · rintro a1 x r σ h1 ex ⟨z, v, rfl, s1⟩
    have : x ∈ ns.map D.int := List.mem_of_mem_take (i := 63) (by rw [ex]; simp)
    obtain ⟨y, _, rfl⟩ := List.mem_map.mp this
    simp -dsimp -failIfUnchanged only [↓wsq_n, ↓wsq_r, ↓wfin_n, ↓wfin_r, ↓ws_nil, ↓ws_cons, ↓ws_expr, ↓ws_set, ↓ws_ret, ↓ws_iff, ↓ws_pass, ↓ws_fb, ↓ws_for, ↓ws_while, ↓ws_wc, ↓ws_wb, ↓wt_tup, ↓wt_nil, ↓wt_cons, ↓wt_sub, ↓wt_fld, ↓we_slot, ↓we_lit, ↓we_op, ↓we_cmp, ↓we_chain, ↓we_nt, ↓we_neg, ↓we_an, ↓we_orr, ↓we_ite, ↓we_tup, ↓we_lst, ↓we_dct, ↓we_sub, ↓we_slc, ↓we_rev, ↓we_fld, ↓we_call, ↓wmk_n, ↓we_mk, ↓we_meth, ↓we_blt, ↓we_bm, ↓we_lc, ↓wes_nil, ↓wes_cons, ↓wes_star, ↓wts_nil, ↓wts_cons, ↓wo_none, ↓wo_some, ↓wi_e, ↓wi_r1, ↓wi_r2, ↓wi_enum, ↓wi_enumS, ↓wi_zip, ↓wnx_n, ↓wnx_r, ↓blq, ↓v_kindS, ↓wb_join, ↓wb_app, ↓wb_pop, ↓wb_ext, ↓wo_lift, ↓x_name, ↓x_lb, ↓x_aug, ↓x_isi, ↓v_isI, ↓v_isB, ↓v_isS, ↓v_isT, ↓v_lenT, ↓v_int, ↓v_max2, ↓v_all, ↓v_any, ↓v_tupL, ↓v_disp0, ↓wk_ok, ↓wo_s, ↓wp_s, ↓wi_i, ↓v_slot0, ↓v_slotS, ↓ss_0, ↓ss_S, ↓sr_n, ↓sr_c, ↓sw_n, ↓sw_c, ↓v_opI, ↓v_add, ↓v_sub, ↓v_tr, ↓v_trO, ↓wf_t, ↓wf_f, ↓v_ix0, ↓v_ix1, ↓v_ix2, ↓v_ix3, ↓v_ix4, ↓v_ix5, ↓v_src, ↓v_perm, ↓wn_0, ↓wn_S, ↓wn_a0, ↓wn_aS, ↓wn_an, ↓dr_n, ↓dr_c, ↓wr_n, ↓wr_c, c_eqI, c_neI, c_ltI, c_gtI, c_leI, c_geI, d_ltI, d_gtI, d_leI, d_geI, c_isN, c_isntN, kindS, items_tup, true_and, and_true, ln_0, ln_1, ln_2, ln_3, ln_4, ln_5, ln_6, ln_7, ln_8, ln_9, ln_10, ln_11, ln_12, ln_13, ln_14, ln_15, ln_16, ln_17, ln_18, ln_19, ln_20, o_mulR n1, o_mod n2, o_mod n3, nf_n]
    exact ⟨_, _, rfl, s1⟩
  · rintro σ h1 ⟨z, v, rfl, s1⟩
    have s2 := same_new.trans s1
    have h02 := up s2
    have lst1 : ∀ (g : Hh) (ys : List D), btD .list [.ref g.length] (g ++ [C.lst ys]) = some (.ref (g ++ [C.lst ys]).length, (g ++ [C.lst ys]) ++ [C.lst ys]) := fun g ys => by
      simp only [btD, lst_new, Option.map_some, newc]
    have rev1 : ∀ (g : Hh) (ys : List D), revD (g ++ [C.lst ys]) (.ref g.length) = some (.ref (g ++ [C.lst ys]).length, (g ++ [C.lst ys]) ++ [C.lst ys.reverse]) := fun g ys => by
      simp only [revD, lst_new, Option.map_some, newc]
    simp -dsimp -failIfUnchanged only [↓wsq_n, ↓wsq_r, ↓wfin_n, ↓wfin_r, ↓ws_nil, ↓ws_cons, ↓ws_expr, ↓ws_set, ↓ws_ret, ↓ws_iff, ↓ws_pass, ↓ws_fb, ↓ws_for, ↓ws_while, ↓ws_wc, ↓ws_wb, ↓wt_tup, ↓wt_nil, ↓wt_cons, ↓wt_sub, ↓wt_fld, ↓we_slot, ↓we_lit, ↓we_op, ↓we_cmp, ↓we_chain, ↓we_nt, ↓we_neg, ↓we_an, ↓we_orr, ↓we_ite, ↓we_tup, ↓we_lst, ↓we_dct, ↓we_sub, ↓we_slc, ↓we_rev, ↓we_fld, ↓we_call, ↓wmk_n, ↓we_mk, ↓we_meth, ↓we_blt, ↓we_bm, ↓we_lc, ↓wes_nil, ↓wes_cons, ↓wes_star, ↓wts_nil, ↓wts_cons, ↓wo_none, ↓wo_some, ↓wi_e, ↓wi_r1, ↓wi_r2, ↓wi_enum, ↓wi_enumS, ↓wi_zip, ↓wnx_n, ↓wnx_r, ↓blq, ↓v_kindS, ↓wb_join, ↓wb_app, ↓wb_pop, ↓wb_ext, ↓wo_lift, ↓x_name, ↓x_lb, ↓x_aug, ↓x_isi, ↓v_isI, ↓v_isB, ↓v_isS, ↓v_isT, ↓v_lenT, ↓v_int, ↓v_max2, ↓v_all, ↓v_any, ↓v_tupL, ↓v_disp0, ↓wk_ok, ↓wo_s, ↓wp_s, ↓wi_i, ↓v_slot0, ↓v_slotS, ↓ss_0, ↓ss_S, ↓sr_n, ↓sr_c, ↓sw_n, ↓sw_c, ↓v_opI, ↓v_add, ↓v_sub, ↓v_tr, ↓v_trO, ↓wf_t, ↓wf_f, ↓v_ix0, ↓v_ix1, ↓v_ix2, ↓v_ix3, ↓v_ix4, ↓v_ix5, ↓v_src, ↓v_perm, ↓wn_0, ↓wn_S, ↓wn_a0, ↓wn_aS, ↓wn_an, ↓dr_n, ↓dr_c, ↓wr_n, ↓wr_c, c_eqI, c_neI, c_ltI, c_gtI, c_leI, c_geI, d_ltI, d_gtI, d_leI, d_geI, c_isN, c_isntN, kindS, items_tup, true_and, and_true, ln_0, ln_1, ln_2, ln_3, ln_4, ln_5, ln_6, ln_7, ln_8, ln_9, ln_10, ln_11, ln_12, ln_13, ln_14, ln_15, ln_16, ln_17, ln_18, ln_19, ln_20, slc_lto (i := 63) h02 (by decide), e63, lst1, rev1, disp_deck]
    refine q _ _ _ _ ⟨?_, z, 0, (ns.take 63).reverse, new_get, ?_, by simp; omega⟩ ?_ ?_ ?_
    · simp
    · rw [List.getElem?_append_left (by simp)]
      simp [List.map_take]
    · have := s2.1; simp; omega
    · have := s2.1; simp; omega
    · exact (((s2.new).new).new).new
end
end Qw
end
section
set_option autoImplicit false
set_option Elab.async false
set_option linter.all false
set_option maxRecDepth 100000
set_option maxHeartbeats 0
/-! the tables of the law: printed by mk.py -/
namespace Lw
open PySem Q
abbrev prg : Program := PySem.Challenge.pw_anyleaver_k04_panels_gone_on
def top (i : Nat) : Stmt := prg.main.body.getD i (.Pass ⟨0, 0, 0, 0⟩)
def mth (i j : Nat) : Stmt := (C8.clsBody (top i)).getD j (.Pass ⟨0, 0, 0, 0⟩)
def mkD (c : Str) (m : Option Str) (n q : Str) (s : Stmt) : He.DefD := ⟨(c, m), n, q, L2.defArgs s, L2.defBody s, L2.defScope s, [], []⟩
def d0 : He.DefD := mkD "law" none "law" "law" (top 29)
def d1 : He.DefD := mkD "_law_deck" none "_law_deck" "_law_deck" (top 21)
def d2 : He.DefD := mkD "_law_right" none "_law_right" "_law_right" (top 28)
def d3 : He.DefD := mkD "Panel" (some "__init__") "__init__" "Panel.__init__" (mth 19 0)
def d4 : He.DefD := mkD "is_mode" none "is_mode" "is_mode" (top 17)
def d5 : He.DefD := mkD "is_number" none "is_number" "is_number" (top 7)
def d6 : He.DefD := mkD "is_integer" none "is_integer" "is_integer" (top 6)
def d7 : He.DefD := mkD "is_index" none "is_index" "is_index" (top 8)
def d8 : He.DefD := mkD "is_rule" none "is_rule" "is_rule" (top 18)
def d9 : He.DefD := mkD "is_signal" none "is_signal" "is_signal" (top 9)
def d10 : He.DefD := mkD "Panel" (some "__eq__") "__eq__" "Panel.__eq__" (mth 19 2)
def d11 : He.DefD := mkD "_law_goes" none "_law_goes" "_law_goes" (top 26)
def d12 : He.DefD := mkD "_law_till" none "_law_till" "_law_till" (top 27)
def d13 : He.DefD := mkD "_law_draw" none "_law_draw" "_law_draw" (top 22)
def d14 : He.DefD := mkD "_law_world" none "_law_world" "_law_world" (top 25)
def d15 : He.DefD := mkD "_law_pick" none "_law_pick" "_law_pick" (top 23)
def d16 : He.DefD := mkD "_law_some" none "_law_some" "_law_some" (top 24)
def d17 : He.DefD := mkD "Panel" (some "goes") "goes" "Panel.goes" (mth 19 3)
def d18 : He.DefD := mkD "Panel" (some "till_armed") "till_armed" "Panel.till_armed" (mth 19 4)
def d19 : He.DefD := mkD "Panel" (some "with_wait") "with_wait" "Panel.with_wait" (mth 19 5)
def defs : List He.DefD := [d0, d1, d2, d3, d4, d5, d6, d7, d8, d9, d10, d11, d12, d13, d14, d15, d16, d17, d18, d19]
def n0 : List Str := ["_law_script", "_law_deck_here", "_law_lap", "_law_ring", "_law_k", "_law_laws", "_law_wide", "_law_told", "_law_signs", "_law_two"]
def n1 : List Str := ["_law_script", "_law_mixed", "_law_cell"]
def n2 : List Str := ["_law_deck_here", "_law_w", "_law_code", "_law_kind", "_law_old", "_law_kinds", "_law_far", "_law_signs", "_law_due", "_law_told", "_law_pause", "_law_it"]
def n3 : List Str := ["self", "modes", "rules", "mode", "rule"]
def n4 : List Str := ["many", "thing"]
def n5 : List Str := ["low", "high", "thing"]
def n6 : List Str := ["thing"]
def n7 : List Str := ["many", "thing"]
def n8 : List Str := ["many", "thing"]
def n9 : List Str := ["thing"]
def n10 : List Str := ["self", "other"]
def n11 : List Str := ["_law_w", "_law_kind", "_law_old", "_law_signs", "_law_here", "_law_sign", "_law_later", "_law_pause"]
def n12 : List Str := ["_law_w", "_law_kind", "_law_old", "_law_most", "_law_it", "_law_count"]
def n13 : List Str := ["_law_deck_here", "_law_below", "_law_blend", "_law_cell"]
def n14 : List Str := ["_law_deck_here", "_law_most", "_law_wide", "_law_kinds", "_law_spots", "_law_k", "_law_w", "_law_signs", "_law_others", "_law_looks", "_law_spans", "_law_x", "_law_y", "_law_room_now", "_law_side", "_law_sign", "_law_step", "_law_pause"]
def n15 : List Str := ["_law_deck_here", "_law_lot"]
def n16 : List Str := ["_law_deck_here", "_law_count", "_law_many", "_law_k"]
def n17 : List Str := ["self", "mode", "age", "heard", "here", "signal", "further", "wait"]
def n18 : List Str := ["self", "mode", "age", "here", "known"]
def n19 : List Str := ["self", "mode", "wait", "armed", "rings", "old", "late"]
def nms : List (List Str) := [n0, n1, n2, n3, n4, n5, n6, n7, n8, n9, n10, n11, n12, n13, n14, n15, n16, n17, n18, n19]
def cls : List (Str × Cl) := [("Panel", ⟨"Panel", ["modes", "rules"], 3, [("__init__", 3), ("__eq__", 10), ("goes", 17), ("till_armed", 18), ("with_wait", 19)]⟩)]
def gls : List (Str × Gv) := [("law", .fn 0), ("_law_deck", .fn 1), ("_law_right", .fn 2), ("_law_world", .fn 14), ("Panel", .cl 0), ("_law_goes", .fn 11), ("_law_till", .fn 12), ("_law_draw", .fn 13), ("is_mode", .fn 4), ("is_rule", .fn 8), ("MODE_PARTS", .val (.int 4)), ("ARMED", .val (.int 0)), ("RINGS", .val (.int 1)), ("is_number", .fn 5), ("MOST_WAIT", .val (.int 99)), ("WAIT", .val (.int 2)), ("is_index", .fn 7), ("LATE", .val (.int 3)), ("is_integer", .fn 6), ("RULE_PARTS", .val (.int 3)), ("is_signal", .fn 9), ("CAPITALS", .val (.str "ABCDEFGHIJKLMNOPQRSTUVWXYZ")), ("_law_pick", .fn 15), ("_law_some", .fn 16)]
def frs : List Str := ["range", "tuple", "len", "int", "list", "max", "repr", "isinstance", "all", "bool", "str", "sum"]
def g0 : Sg := ⟨0, 1, [], [0]⟩
def g1 : Sg := ⟨10, 2, [], [0, 1]⟩
def g2 : Sg := ⟨1, 1, [], [0]⟩
def g3 : Sg := ⟨2, 2, [], [0, 1]⟩
def g4 : Sg := ⟨14, 2, [], [0, 1]⟩
def g5 : Sg := ⟨18, 3, [], [0, 1, 2]⟩
def g6 : Sg := ⟨3, 3, [], [0, 1, 2]⟩
def g7 : Sg := ⟨17, 4, [], [0, 1, 2, 3]⟩
def g8 : Sg := ⟨11, 4, [], [0, 1, 2, 3]⟩
def g9 : Sg := ⟨17, 1, ["heard", "age", "mode"], [0, 3, 2, 1]⟩
def g10 : Sg := ⟨12, 3, [], [0, 1, 2]⟩
def g11 : Sg := ⟨18, 1, ["age", "mode"], [0, 2, 1]⟩
def g12 : Sg := ⟨13, 2, [], [0, 1]⟩
def g13 : Sg := ⟨19, 3, [], [0, 1, 2]⟩
def g14 : Sg := ⟨19, 1, ["wait", "mode"], [0, 2, 1]⟩
def g15 : Sg := ⟨4, 2, [], [0, 1]⟩
def g16 : Sg := ⟨8, 2, [], [0, 1]⟩
def g17 : Sg := ⟨5, 3, [], [0, 1, 2]⟩
def g18 : Sg := ⟨7, 2, [], [0, 1]⟩
def g19 : Sg := ⟨6, 1, [], [0]⟩
def g20 : Sg := ⟨9, 1, [], [0]⟩
def g21 : Sg := ⟨15, 2, [], [0, 1]⟩
def g22 : Sg := ⟨16, 3, [], [0, 1, 2]⟩
def sgs : List Sg := [g0, g1, g2, g3, g4, g5, g6, g7, g8, g9, g10, g11, g12, g13, g14, g15, g16, g17, g18, g19, g20, g21, g22]
def tab : LawT := ⟨defs, nms, cls, gls, frs, sgs, 1000000⟩
theorem tab_ok : tab.ok = true := by decide +kernel
theorem sg0 : SgB tab g0 := by
  intro d hd kV doc pm an cdv ct us ws h1 h2
  cases (show some d0 = some d from hd)
  match us, ws, h1, h2 with
  | [a0], [], _, _ => exact ⟨_, rfl, rfl, rfl⟩
theorem sg1 : SgB tab g1 := by
  intro d hd kV doc pm an cdv ct us ws h1 h2
  cases (show some d10 = some d from hd)
  match us, ws, h1, h2 with
  | [a0, a1], [], _, _ => exact ⟨_, rfl, rfl, rfl⟩
theorem sg2 : SgB tab g2 := by
  intro d hd kV doc pm an cdv ct us ws h1 h2
  cases (show some d1 = some d from hd)
  match us, ws, h1, h2 with
  | [a0], [], _, _ => exact ⟨_, rfl, rfl, rfl⟩
theorem sg3 : SgB tab g3 := by
  intro d hd kV doc pm an cdv ct us ws h1 h2
  cases (show some d2 = some d from hd)
  match us, ws, h1, h2 with
  | [a0, a1], [], _, _ => exact ⟨_, rfl, rfl, rfl⟩
theorem sg4 : SgB tab g4 := by
  intro d hd kV doc pm an cdv ct us ws h1 h2
  cases (show some d14 = some d from hd)
  match us, ws, h1, h2 with
  | [a0, a1], [], _, _ => exact ⟨_, rfl, rfl, rfl⟩
theorem sg5 : SgB tab g5 := by
  intro d hd kV doc pm an cdv ct us ws h1 h2
  cases (show some d18 = some d from hd)
  match us, ws, h1, h2 with
  | [a0, a1, a2], [], _, _ => exact ⟨_, rfl, rfl, rfl⟩
theorem sg6 : SgB tab g6 := by
  intro d hd kV doc pm an cdv ct us ws h1 h2
  cases (show some d3 = some d from hd)
  match us, ws, h1, h2 with
  | [a0, a1, a2], [], _, _ => exact ⟨_, rfl, rfl, rfl⟩
theorem sg7 : SgB tab g7 := by
  intro d hd kV doc pm an cdv ct us ws h1 h2
  cases (show some d17 = some d from hd)
  match us, ws, h1, h2 with
  | [a0, a1, a2, a3], [], _, _ => exact ⟨_, rfl, rfl, rfl⟩
theorem sg8 : SgB tab g8 := by
  intro d hd kV doc pm an cdv ct us ws h1 h2
  cases (show some d11 = some d from hd)
  match us, ws, h1, h2 with
  | [a0, a1, a2, a3], [], _, _ => exact ⟨_, rfl, rfl, rfl⟩
theorem sg9 : SgB tab g9 := by
  intro d hd kV doc pm an cdv ct us ws h1 h2
  cases (show some d17 = some d from hd)
  match us, ws, h1, h2 with
  | [a0], [b0, b1, b2], _, _ => exact ⟨_, rfl, rfl, rfl⟩
theorem sg10 : SgB tab g10 := by
  intro d hd kV doc pm an cdv ct us ws h1 h2
  cases (show some d12 = some d from hd)
  match us, ws, h1, h2 with
  | [a0, a1, a2], [], _, _ => exact ⟨_, rfl, rfl, rfl⟩
theorem sg11 : SgB tab g11 := by
  intro d hd kV doc pm an cdv ct us ws h1 h2
  cases (show some d18 = some d from hd)
  match us, ws, h1, h2 with
  | [a0], [b0, b1], _, _ => exact ⟨_, rfl, rfl, rfl⟩
theorem sg12 : SgB tab g12 := by
  intro d hd kV doc pm an cdv ct us ws h1 h2
  cases (show some d13 = some d from hd)
  match us, ws, h1, h2 with
  | [a0, a1], [], _, _ => exact ⟨_, rfl, rfl, rfl⟩
theorem sg13 : SgB tab g13 := by
  intro d hd kV doc pm an cdv ct us ws h1 h2
  cases (show some d19 = some d from hd)
  match us, ws, h1, h2 with
  | [a0, a1, a2], [], _, _ => exact ⟨_, rfl, rfl, rfl⟩
theorem sg14 : SgB tab g14 := by
  intro d hd kV doc pm an cdv ct us ws h1 h2
  cases (show some d19 = some d from hd)
  match us, ws, h1, h2 with
  | [a0], [b0, b1], _, _ => exact ⟨_, rfl, rfl, rfl⟩
theorem sg15 : SgB tab g15 := by
  intro d hd kV doc pm an cdv ct us ws h1 h2
  cases (show some d4 = some d from hd)
  match us, ws, h1, h2 with
  | [a0, a1], [], _, _ => exact ⟨_, rfl, rfl, rfl⟩
theorem sg16 : SgB tab g16 := by
  intro d hd kV doc pm an cdv ct us ws h1 h2
  cases (show some d8 = some d from hd)
  match us, ws, h1, h2 with
  | [a0, a1], [], _, _ => exact ⟨_, rfl, rfl, rfl⟩
theorem sg17 : SgB tab g17 := by
  intro d hd kV doc pm an cdv ct us ws h1 h2
  cases (show some d5 = some d from hd)
  match us, ws, h1, h2 with
  | [a0, a1, a2], [], _, _ => exact ⟨_, rfl, rfl, rfl⟩
theorem sg18 : SgB tab g18 := by
  intro d hd kV doc pm an cdv ct us ws h1 h2
  cases (show some d7 = some d from hd)
  match us, ws, h1, h2 with
  | [a0, a1], [], _, _ => exact ⟨_, rfl, rfl, rfl⟩
theorem sg19 : SgB tab g19 := by
  intro d hd kV doc pm an cdv ct us ws h1 h2
  cases (show some d6 = some d from hd)
  match us, ws, h1, h2 with
  | [a0], [], _, _ => exact ⟨_, rfl, rfl, rfl⟩
theorem sg20 : SgB tab g20 := by
  intro d hd kV doc pm an cdv ct us ws h1 h2
  cases (show some d9 = some d from hd)
  match us, ws, h1, h2 with
  | [a0], [], _, _ => exact ⟨_, rfl, rfl, rfl⟩
theorem sg21 : SgB tab g21 := by
  intro d hd kV doc pm an cdv ct us ws h1 h2
  cases (show some d15 = some d from hd)
  match us, ws, h1, h2 with
  | [a0, a1], [], _, _ => exact ⟨_, rfl, rfl, rfl⟩
theorem sg22 : SgB tab g22 := by
  intro d hd kV doc pm an cdv ct us ws h1 h2
  cases (show some d16 = some d from hd)
  match us, ws, h1, h2 with
  | [a0, a1, a2], [], _, _ => exact ⟨_, rfl, rfl, rfl⟩
theorem sgs_ok : AllP (SgB tab) sgs := ⟨sg0, sg1, sg2, sg3, sg4, sg5, sg6, sg7, sg8, sg9, sg10, sg11, sg12, sg13, sg14, sg15, sg16, sg17, sg18, sg19, sg20, sg21, sg22, trivial⟩
end Lw
end
section
set_option autoImplicit false
set_option Elab.async false
set_option linter.all false
set_option maxRecDepth 100000
set_option maxHeartbeats 0
namespace Lw
open PySem Q Qw
abbrev F_law : Nat := 0
abbrev F_Ldeck : Nat := 1
abbrev F_Lright : Nat := 2
abbrev F_Panel_init : Nat := 3
abbrev F_is_mode : Nat := 4
abbrev F_is_number : Nat := 5
abbrev F_is_integer : Nat := 6
abbrev F_is_index : Nat := 7
abbrev F_is_rule : Nat := 8
abbrev F_is_signal : Nat := 9
abbrev F_Panel_eq : Nat := 10
abbrev F_Lgoes : Nat := 11
abbrev F_Ltill : Nat := 12
abbrev F_Ldraw : Nat := 13
abbrev F_Lworld : Nat := 14
abbrev F_Lpick : Nat := 15
abbrev F_Lsome : Nat := 16
abbrev F_Panel_goes : Nat := 17
abbrev F_Panel_till_armed : Nat := 18
abbrev F_Panel_with_wait : Nat := 19
/-- law(_law_script, _law_deck_here, _law_lap, _law_ring, _law_k, _law_laws, _law_wide, _law_told, _law_signs, _law_two) -/
def T_law : Ss := (.cons (.set (.name 1) (.call F_Ldeck (.cons (.slot 0) .nil) .nil [0]))
  (.cons (.for_ (.name 2) (.range1 (.lit (.int 6))) (.cons (.iff (.nt (.call F_Lright (.cons (.slot 1) (.cons (.call F_Lworld (.cons (.slot 1) (.cons (.lit (.int 2)) .nil)) .nil [0, 1]) .nil)) .nil [0, 1])) (.cons (.ret (.lit (.bl false)))
    .nil) .nil)
   .nil))
  (.cons (.set (.name 3) (.blt .tuple (.cons (.lc (.tup (.cons (.cmp .eq (.slot 4) (.lit (.int 4))) (.cons (.lit (.bl false)) (.cons (.lit (.int 6)) (.cons (.op .mod (.op .add (.slot 4) (.lit (.int 1))) (.lit (.int 5))) .nil))))) (.name 4) (.range1 (.lit (.int 5))) .nil [4]) .nil)))
  (.cons (.iff (.orr (.cmp .ne (.meth (.mk 0 (.cons (.slot 3) (.cons (.tup .nil) .nil)) .nil [0, 1, 2]) "till_armed" (.cons (.lit (.int 0)) (.cons (.lit (.int 0)) .nil)) .nil [0, 1, 2]) (.lit (.int 24))) (.cmp .isntN (.meth (.mk 0 (.cons (.op .add (.slc (.slot 3) .none (.some (.lit (.int 4)))) (.tup (.cons (.tup (.cons (.lit (.bl false)) (.cons (.lit (.bl false)) (.cons (.lit (.int 6)) (.cons (.lit (.int 0)) .nil))))) .nil))) (.cons (.tup .nil) .nil)) .nil [0, 1, 2]) "till_armed" (.cons (.lit (.int 0)) (.cons (.lit (.int 5)) .nil)) .nil [0, 1, 2]) (.lit .non))) (.cons (.ret (.lit (.bl false)))
   .nil) .nil)
  (.cons (.set (.name 5) (.op .add (.op .add (.op .add (.tup (.cons (.tup (.cons (.lit (.int 0)) (.cons (.lit (.str "A")) (.cons (.lit (.int 1)) .nil)))) .nil)) (.op .mul (.tup (.cons (.tup (.cons (.lit (.int 1)) (.cons (.lit (.str "A")) (.cons (.lit (.int 0)) .nil)))) (.cons (.tup (.cons (.lit (.int 0)) (.cons (.lit (.str "A")) (.cons (.lit (.int 0)) .nil)))) .nil))) (.lit (.int 5)))) (.tup (.cons (.tup (.cons (.lit (.int 0)) (.cons (.lit (.str "B")) (.cons (.lit (.int 2)) .nil)))) .nil))) (.op .mul (.tup (.cons (.tup (.cons (.lit (.int 2)) (.cons (.lit (.str "C")) (.cons (.lit (.int 1)) .nil)))) (.cons (.tup (.cons (.lit (.int 0)) (.cons (.lit (.str "B")) (.cons (.lit (.int 0)) .nil)))) .nil))) (.lit (.int 3)))))
  (.cons (.set (.name 5) (.op .add (.slot 5) (.tup (.cons (.tup (.cons (.lit (.int 1)) (.cons (.lit (.str "C")) (.cons (.lit (.int 1)) .nil)))) (.cons (.tup (.cons (.lit (.int 0)) (.cons (.lit (.str "C")) (.cons (.lit (.int 1)) .nil)))) .nil)))))
  (.cons (.set (.name 6) (.mk 0 (.cons (.tup (.cons (.tup (.cons (.lit (.bl false)) (.cons (.lit (.bl false)) (.cons (.lit (.int 0)) (.cons (.lit (.int 0)) .nil))))) (.cons (.tup (.cons (.lit (.bl true)) (.cons (.lit (.bl false)) (.cons (.lit (.int 0)) (.cons (.lit (.int 1)) .nil))))) (.cons (.tup (.cons (.lit (.bl false)) (.cons (.lit (.bl true)) (.cons (.lit (.int 0)) (.cons (.lit (.int 2)) .nil))))) .nil)))) (.cons (.slot 5) .nil)) .nil [0, 1, 2]))
  (.cons (.set (.name 7) (.op .add (.lst (.cons (.blt .len (.cons (.fld (.slot 6) "rules") .nil)) .nil)) (.lc (.meth (.slot 6) "goes" (.cons (.lit (.int 0)) (.cons (.lit (.int 0)) (.cons (.slot 8) .nil))) .nil [0, 1, 2, 3]) (.name 8) (.e (.tup (.cons (.lit (.str "A")) (.cons (.lit (.str "B")) (.cons (.lit (.str "C")) (.cons (.lit (.str "BC")) (.cons (.lit (.str "ABCD")) (.cons (.lit (.str "E")) .nil)))))))) .nil [8])))
  (.cons (.iff (.cmp .ne (.slot 7) (.lst (.cons (.lit (.int 20)) (.cons (.tup (.cons (.lit (.int 1)) (.cons (.lit (.int 0)) .nil))) (.cons (.tup (.cons (.lit (.int 2)) (.cons (.lit (.int 0)) .nil))) (.cons (.tup (.cons (.lit (.int 1)) (.cons (.lit (.int 0)) .nil))) (.cons (.tup (.cons (.lit (.int 2)) (.cons (.lit (.int 0)) .nil))) (.cons (.tup (.cons (.lit (.int 1)) (.cons (.lit (.int 0)) .nil))) (.cons (.tup (.cons (.lit (.int 0)) (.cons (.lit (.int 0)) .nil))) .nil))))))))) (.cons (.ret (.lit (.bl false)))
   .nil) .nil)
  (.cons (.set (.name 9) (.mk 0 (.cons (.tup (.cons (.tup (.cons (.lit (.bl false)) (.cons (.lit (.bl false)) (.cons (.lit (.int 0)) (.cons (.lit (.int 0)) .nil))))) (.cons (.tup (.cons (.lit (.bl true)) (.cons (.lit (.bl false)) (.cons (.lit (.int 2)) (.cons (.lit (.int 0)) .nil))))) .nil))) (.cons (.tup (.cons (.tup (.cons (.lit (.int 0)) (.cons (.lit (.str "B")) (.cons (.lit (.int 1)) .nil)))) (.cons (.tup (.cons (.lit (.int 0)) (.cons (.lit (.str "A")) (.cons (.lit (.int 0)) .nil)))) (.cons (.tup (.cons (.lit (.int 1)) (.cons (.lit (.str "A")) (.cons (.lit (.int 1)) .nil)))) .nil)))) .nil)) .nil [0, 1, 2]))
  (.cons (.set (.name 7) (.lst (.cons (.meth (.slot 9) "goes" (.cons (.lit (.int 0)) (.cons (.lit (.int 0)) (.cons (.lit (.str "AB")) .nil))) .nil [0, 1, 2, 3]) (.cons (.meth (.slot 9) "goes" (.cons (.lit (.int 0)) (.cons (.lit (.int 0)) (.cons (.lit (.str "A")) .nil))) .nil [0, 1, 2, 3]) (.cons (.meth (.slot 9) "goes" (.cons (.lit (.int 1)) (.cons (.lit (.int 1)) (.cons (.lit (.str "A")) .nil))) .nil [0, 1, 2, 3]) (.cons (.meth (.slot 9) "goes" (.cons (.lit (.int 1)) (.cons (.lit (.int 1)) (.cons (.lit (.str "")) .nil))) .nil [0, 1, 2, 3]) (.cons (.meth (.slot 9) "goes" (.cons (.lit (.int 1)) (.cons (.lit (.int 0)) (.cons (.lit (.str "B")) .nil))) .nil [0, 1, 2, 3]) .nil)))))))
  (.cons (.ret (.cmp .eq (.slot 7) (.lst (.cons (.tup (.cons (.lit (.int 1)) (.cons (.lit (.int 0)) .nil))) (.cons (.tup (.cons (.lit (.int 0)) (.cons (.lit (.int 0)) .nil))) (.cons (.tup (.cons (.lit (.int 1)) (.cons (.lit (.int 0)) .nil))) (.cons (.tup (.cons (.lit (.int 0)) (.cons (.lit (.int 0)) .nil))) (.cons (.tup (.cons (.lit (.int 1)) (.cons (.lit (.int 1)) .nil))) .nil))))))))
  .nil))))))))))))
/-- _law_deck(_law_script, _law_mixed, _law_cell) -/
def T_Ldeck : Ss := (.cons (.set (.name 1) (.lit (.int 155004)))
  (.cons (.for_ (.name 2) (.e (.slc (.slot 0) .none (.some (.lit (.int 63))))) (.cons (.set (.name 1) (.op .mod (.blt .int (.cons (.op .add (.op .add (.op .mul (.slot 1) (.lit (.int 48271))) (.op .mod (.blt .int (.cons (.slot 2) .nil)) (.lit (.int 2147483629)))) (.lit (.int 101))) .nil)) (.lit (.int 2147483587))))
   .nil))
  (.cons (.ret (.dct (.cons (.lit (.str "left")) (.cons (.rev (.blt .list (.cons (.slc (.slot 0) .none (.some (.lit (.int 63)))) .nil))) (.cons (.lit (.str "mixed")) (.cons (.slot 1) (.cons (.lit (.str "draws")) (.cons (.lit (.int 0)) .nil))))))))
  .nil)))
/-- _law_right(_law_deck_here, _law_w, _law_code, _law_kind, _law_old, _law_kinds, _law_far, _law_signs, _law_due, _law_told, _law_pause, _law_it) -/
def T_Lright : Ss := (.cons (.set (.name 2) (.mk 0 (.cons (.blt .tuple (.cons (.sub (.slot 1) (.lit (.str "kinds"))) .nil)) (.cons (.blt .tuple (.cons (.sub (.slot 1) (.lit (.str "laws"))) .nil)) .nil)) .nil [0, 1, 2]))
  (.cons (.for_ (.name 3) (.range1 (.blt .len (.cons (.sub (.slot 1) (.lit (.str "kinds"))) .nil))) (.cons (.for_ (.name 4) (.range1 (.blt .max2 (.cons (.lit (.int 1)) (.cons (.sub (.sub (.sub (.slot 1) (.lit (.str "kinds"))) (.slot 3)) (.lit (.int 2))) .nil)))) (.cons (.for_ (.name 7) (.e (.tup (.cons (.lit (.str "")) (.cons (.lit (.str "A")) (.cons (.lit (.str "B")) (.cons (.lit (.str "C")) (.cons (.lit (.str "AB")) (.cons (.lit (.str "BC")) (.cons (.lit (.str "ABCDE")) (.cons (.lit (.str "E")) (.cons (.lit (.str "CE")) .nil))))))))))) (.cons (.set (.name 8) (.call F_Lgoes (.cons (.slot 1) (.cons (.slot 3) (.cons (.slot 4) (.cons (.slot 7) .nil)))) .nil [0, 1, 2, 3]))
     (.cons (.iff (.cmp .ne (.blt .repr (.cons (.lst (.cons (.meth (.slot 2) "goes" (.cons (.slot 3) (.cons (.slot 4) (.cons (.slot 7) .nil))) .nil [0, 1, 2, 3]) (.cons (.meth (.slot 2) "goes" .nil (.cons (.slot 7) (.cons (.slot 4) (.cons (.slot 3) .nil))) [0, 3, 2, 1]) .nil))) .nil)) (.blt .repr (.cons (.lst (.cons (.slot 8) (.cons (.slot 8) .nil))) .nil))) (.cons (.ret (.lit (.bl false)))
      .nil) .nil)
     .nil)))
    (.cons (.set (.name 8) (.call F_Ltill (.cons (.slot 1) (.cons (.slot 3) (.cons (.slot 4) .nil))) .nil [0, 1, 2]))
    (.cons (.set (.name 9) (.lst (.cons (.meth (.slot 2) "till_armed" (.cons (.slot 3) (.cons (.slot 4) .nil)) .nil [0, 1, 2]) (.cons (.meth (.slot 2) "till_armed" .nil (.cons (.slot 4) (.cons (.slot 3) .nil)) [0, 2, 1]) (.cons (.meth (.slot 2) "till_armed" (.cons (.slot 3) (.cons (.slot 4) .nil)) .nil [0, 1, 2]) .nil)))))
    (.cons (.iff (.cmp .ne (.blt .repr (.cons (.slot 9) .nil)) (.blt .repr (.cons (.op .mul (.lst (.cons (.slot 8) .nil)) (.lit (.int 3))) .nil))) (.cons (.ret (.lit (.bl false)))
     .nil) .nil)
    .nil)))))
   (.cons (.set (.tup (.cons (.name 10) (.cons (.name 11) .nil))) (.tup (.cons (.call F_Ldraw (.cons (.slot 0) (.cons (.lit (.int 10)) .nil)) .nil [0, 1]) (.cons (.sub (.sub (.slot 1) (.lit (.str "kinds"))) (.slot 3)) .nil))))
   (.cons (.set (.name 5) (.op .add (.op .add (.blt .tuple (.cons (.slc (.sub (.slot 1) (.lit (.str "kinds"))) .none (.some (.slot 3))) .nil)) (.tup (.cons (.tup (.cons (.sub (.slot 11) (.lit (.int 0))) (.cons (.sub (.slot 11) (.lit (.int 1))) (.cons (.slot 10) (.cons (.sub (.slot 11) (.lit (.int 3))) .nil))))) .nil))) (.blt .tuple (.cons (.slc (.sub (.slot 1) (.lit (.str "kinds"))) (.some (.op .add (.slot 3) (.lit (.int 1)))) .none) .nil))))
   (.cons (.for_ (.name 6) (.e (.tup (.cons (.meth (.slot 2) "with_wait" (.cons (.slot 3) (.cons (.slot 10) .nil)) .nil [0, 1, 2]) (.cons (.meth (.slot 2) "with_wait" .nil (.cons (.slot 10) (.cons (.slot 3) .nil)) [0, 2, 1]) .nil)))) (.cons (.iff (.cmp .ne (.slot 6) (.mk 0 (.cons (.slot 5) (.cons (.blt .tuple (.cons (.sub (.slot 1) (.lit (.str "laws"))) .nil)) .nil)) .nil [0, 1, 2])) (.cons (.ret (.lit (.bl false)))
     .nil) .nil)
    .nil))
   .nil)))))
  (.cons (.ret (.cmp .eq (.lst (.cons (.fld (.slot 2) "modes") (.cons (.fld (.slot 2) "rules") .nil))) (.lst (.cons (.blt .tuple (.cons (.sub (.slot 1) (.lit (.str "kinds"))) .nil)) (.cons (.blt .tuple (.cons (.sub (.slot 1) (.lit (.str "laws"))) .nil)) .nil)))))
  .nil)))
/-- Panel.__init__(self, modes, rules, mode, rule) -/
def T_Panel_init : Ss := (.cons (.iff (.orr (.nt (.isi (.slot 1) [.tuple])) (.orr (.cmp .eq (.slot 1) (.tup .nil)) (.nt (.blt .all (.cons (.lc (.call F_is_mode (.cons (.blt .len (.cons (.slot 1) .nil)) (.cons (.slot 3) .nil)) .nil [0, 1]) (.name 3) (.e (.slot 1)) .nil [3]) .nil))))) (.cons (.raise_ 0 .nil)
   .nil) .nil)
  (.cons (.iff (.orr (.nt (.isi (.slot 2) [.tuple])) (.nt (.blt .all (.cons (.lc (.call F_is_rule (.cons (.blt .len (.cons (.slot 1) .nil)) (.cons (.slot 4) .nil)) .nil [0, 1]) (.name 4) (.e (.slot 2)) .nil [4]) .nil)))) (.cons (.raise_ 0 .nil)
   .nil) .nil)
  (.cons (.set (.fld (.slot 0) "modes") (.slot 1))
  (.cons (.set (.fld (.slot 0) "rules") (.slot 2))
  .nil))))
/-- is_mode(many, thing) -/
def T_is_mode : Ss := (.cons (.iff (.orr (.nt (.isi (.slot 1) [.tuple])) (.cmp .ne (.blt .len (.cons (.slot 1) .nil)) (.lit (.int 4)))) (.cons (.ret (.lit (.bl false)))
   .nil) .nil)
  (.cons (.iff (.orr (.nt (.isi (.sub (.slot 1) (.lit (.int 0))) [.bool])) (.nt (.isi (.sub (.slot 1) (.lit (.int 1))) [.bool]))) (.cons (.ret (.lit (.bl false)))
   .nil) .nil)
  (.cons (.ret (.an (.call F_is_number (.cons (.lit (.int 0)) (.cons (.lit (.int 99)) (.cons (.sub (.slot 1) (.lit (.int 2))) .nil))) .nil [0, 1, 2]) (.call F_is_index (.cons (.slot 0) (.cons (.sub (.slot 1) (.lit (.int 3))) .nil)) .nil [0, 1])))
  .nil)))
/-- is_number(low, high, thing) -/
def T_is_number : Ss := (.cons (.ret (.an (.call F_is_integer (.cons (.slot 2) .nil) .nil [0]) (.chain .le .le (.slot 0) (.slot 2) (.slot 1))))
  .nil)
/-- is_integer(thing) -/
def T_is_integer : Ss := (.cons (.ret (.an (.isi (.slot 0) [.int]) (.nt (.isi (.slot 0) [.bool]))))
  .nil)
/-- is_index(many, thing) -/
def T_is_index : Ss := (.cons (.ret (.an (.call F_is_integer (.cons (.slot 1) .nil) .nil [0]) (.chain .le .lt (.lit (.int 0)) (.slot 1) (.slot 0))))
  .nil)
/-- is_rule(many, thing) -/
def T_is_rule : Ss := (.cons (.iff (.orr (.nt (.isi (.slot 1) [.tuple])) (.cmp .ne (.blt .len (.cons (.slot 1) .nil)) (.lit (.int 3)))) (.cons (.ret (.lit (.bl false)))
   .nil) .nil)
  (.cons (.ret (.an (.call F_is_index (.cons (.slot 0) (.cons (.sub (.slot 1) (.lit (.int 0))) .nil)) .nil [0, 1]) (.an (.call F_is_signal (.cons (.sub (.slot 1) (.lit (.int 1))) .nil) .nil [0]) (.call F_is_index (.cons (.slot 0) (.cons (.sub (.slot 1) (.lit (.int 2))) .nil)) .nil [0, 1]))))
  .nil))
/-- is_signal(thing) -/
def T_is_signal : Ss := (.cons (.ret (.an (.isi (.slot 0) [.str]) (.an (.cmp .eq (.blt .len (.cons (.slot 0) .nil)) (.lit (.int 1))) (.cmp .inn (.slot 0) (.lit (.str "ABCDEFGHIJKLMNOPQRSTUVWXYZ"))))))
  .nil)
/-- Panel.__eq__(self, other) -/
def T_Panel_eq : Ss := (.cons (.ret (.an (.isi (.slot 1) [.cls 0]) (.an (.cmp .eq (.fld (.slot 0) "modes") (.fld (.slot 1) "modes")) (.cmp .eq (.fld (.slot 0) "rules") (.fld (.slot 1) "rules")))))
  .nil)
/-- _law_goes(_law_w, _law_kind, _law_old, _law_signs, _law_here, _law_sign, _law_later, _law_pause) -/
def T_Lgoes : Ss := (.cons (.for_ (.tup (.cons (.name 4) (.cons (.name 5) (.cons (.name 6) .nil)))) (.e (.sub (.slot 0) (.lit (.str "laws")))) (.cons (.iff (.an (.cmp .eq (.slot 4) (.slot 1)) (.cmp .inn (.slot 5) (.slot 3))) (.cons (.ret (.tup (.cons (.slot 6) (.cons (.lit (.int 0)) .nil))))
    .nil) .nil)
   .nil))
  (.cons (.set (.name 7) (.sub (.sub (.sub (.slot 0) (.lit (.str "kinds"))) (.slot 1)) (.lit (.int 2))))
  (.cons (.iff (.cmp .eq (.slot 7) (.lit (.int 0))) (.cons (.ret (.tup (.cons (.slot 1) (.cons (.slot 2) .nil))))
   .nil) .nil)
  (.cons (.ret (.ite (.cmp .eq (.op .add (.slot 2) (.lit (.int 1))) (.slot 7)) (.tup (.cons (.sub (.sub (.sub (.slot 0) (.lit (.str "kinds"))) (.slot 1)) (.lit (.int 3))) (.cons (.lit (.int 0)) .nil))) (.tup (.cons (.slot 1) (.cons (.op .add (.slot 2) (.lit (.int 1))) .nil)))))
  .nil))))
/-- _law_till(_law_w, _law_kind, _law_old, _law_most, _law_it, _law_count) -/
def T_Ltill : Ss := (.cons (.set (.name 3) (.blt .sum (.cons (.lc (.blt .max2 (.cons (.lit (.int 1)) (.cons (.sub (.slot 4) (.lit (.int 2))) .nil))) (.name 4) (.e (.sub (.slot 0) (.lit (.str "kinds")))) .nil [4]) .nil)))
  (.cons (.for_ (.name 5) (.range1 (.op .add (.slot 3) (.lit (.int 1)))) (.cons (.iff (.sub (.sub (.sub (.slot 0) (.lit (.str "kinds"))) (.slot 1)) (.lit (.int 0))) (.cons (.ret (.slot 5))
    .nil) .nil)
   (.cons (.set (.tup (.cons (.name 1) (.cons (.name 2) .nil))) (.call F_Lgoes (.cons (.slot 0) (.cons (.slot 1) (.cons (.slot 2) (.cons (.lit (.str "")) .nil)))) .nil [0, 1, 2, 3]))
   .nil)))
  (.cons (.ret (.lit .non))
  .nil)))
/-- _law_draw(_law_deck_here, _law_below, _law_blend, _law_cell) -/
def T_Ldraw : Ss := (.cons (.set (.sub (.slot 0) (.lit (.str "draws"))) (.op .add (.sub (.slot 0) (.lit (.str "draws"))) (.lit (.int 1))))
  (.cons (.set (.name 2) (.op .add (.sub (.slot 0) (.lit (.str "mixed"))) (.op .mul (.lit (.int 60325)) (.sub (.slot 0) (.lit (.str "draws"))))))
  (.cons (.iff (.cmp .ne (.sub (.slot 0) (.lit (.str "left"))) (.lst .nil)) (.cons (.set (.name 3) (.bm .pop (.sub (.slot 0) (.lit (.str "left"))) .nil))
   (.cons (.iff (.cmp .ge (.slot 3) (.op .pow (.lit (.int 10)) (.lit (.int 18)))) (.cons (.expr (.bm .append (.sub (.slot 0) (.lit (.str "left"))) (.cons (.op .fdiv (.slot 3) (.slot 1)) .nil)))
    (.cons (.ret (.blt .int (.cons (.op .mod (.slot 3) (.slot 1)) .nil)))
    .nil)) .nil)
   (.cons (.set (.name 2) (.op .add (.slot 2) (.op .mod (.blt .int (.cons (.slot 3) .nil)) (.lit (.int 2147483629)))))
   .nil))) .nil)
  (.cons (.set (.name 2) (.op .mod (.blt .int (.cons (.op .add (.op .mul (.slot 2) (.lit (.int 40692))) (.lit (.int 45))) .nil)) (.lit (.int 2147483647))))
  (.cons (.set (.name 2) (.op .mod (.blt .int (.cons (.op .add (.op .add (.op .mul (.slot 2) (.slot 2)) (.op .mul (.lit (.int 52721)) (.sub (.slot 0) (.lit (.str "draws"))))) (.lit (.int 4))) .nil)) (.lit (.int 2147483587))))
  (.cons (.ret (.blt .int (.cons (.op .mod (.op .fdiv (.op .mod (.op .mul (.slot 2) (.lit (.int 39373))) (.lit (.int 2147483563))) (.lit (.int 64))) (.slot 1)) .nil)))
  .nil))))))
/-- _law_world(_law_deck_here, _law_most, _law_wide, _law_kinds, _law_spots, _law_k, _law_w, _law_signs, _law_others, _law_looks, _law_spans, _law_x, _law_y, _law_room_now, _law_side, _law_sign, _law_step, _law_pause) -/
def T_Lworld : Ss := (.cons (.set (.tup (.cons (.name 2) (.cons (.name 3) .nil))) (.tup (.cons (.op .add (.lit (.int 1)) (.call F_Ldraw (.cons (.slot 0) (.cons (.slot 1) .nil)) .nil [0, 1])) (.cons (.op .add (.lit (.int 1)) (.call F_Ldraw (.cons (.slot 0) (.cons (.lit (.int 4)) .nil)) .nil [0, 1])) .nil))))
  (.cons (.set (.name 4) (.blt .tuple (.cons (.lc (.call F_Lpick (.cons (.slot 0) (.cons (.lst (.cons (.neg (.lit (.int 1))) (.cons (.lit (.int 0)) (.cons (.lit (.int 1)) (.cons (.lit (.int 1)) (.cons (.lit (.int 2)) .nil)))))) .nil)) .nil [0, 1]) (.name 5) (.range1 (.slot 2)) .nil [5]) .nil)))
  (.cons (.set (.name 6) (.dct (.cons (.lit (.str "spots")) (.cons (.slot 4) (.cons (.lit (.str "steps")) (.cons (.lst .nil) (.cons (.lit (.str "begin")) (.cons (.call F_Lsome (.cons (.slot 0) (.cons (.slot 2) (.cons (.lit (.int 2)) .nil))) .nil [0, 1, 2]) (.cons (.lit (.str "kinds")) (.cons (.lst .nil) (.cons (.lit (.str "laws")) (.cons (.lst .nil) .nil))))))))))))
  (.cons (.for_ (.name 5) (.range1 (.call F_Ldraw (.cons (.slot 0) (.cons (.op .add (.op .mul (.lit (.int 2)) (.slot 2)) (.lit (.int 2))) .nil)) .nil [0, 1])) (.cons (.set (.tup (.cons (.name 11) (.cons (.name 12) .nil))) (.tup (.cons (.call F_Ldraw (.cons (.slot 0) (.cons (.slot 2) .nil)) .nil [0, 1]) (.cons (.call F_Ldraw (.cons (.slot 0) (.cons (.slot 2) .nil)) .nil [0, 1]) .nil))))
   (.cons (.set (.name 7) (.bm .join (.lit (.str "")) (.cons (.lc (.slot 15) (.name 15) (.e (.lst (.cons (.lit (.str "A")) (.cons (.lit (.str "B")) (.cons (.lit (.str "C")) .nil))))) (.cons (.cmp .eq (.call F_Ldraw (.cons (.slot 0) (.cons (.lit (.int 3)) .nil)) .nil [0, 1]) (.lit (.int 0))) .nil) [15]) .nil)))
   (.cons (.set (.name 8) (.lc (.slot 13) (.name 13) (.range1 (.lit (.int 3))) (.cons (.cmp .ne (.slot 13) (.sub (.slot 4) (.slot 11))) .nil) [13]))
   (.cons (.set (.name 9) (.lc (.blt .tuple (.cons (.lc (.slot 13) (.name 13) (.e (.slot 8)) (.cons (.cmp .eq (.call F_Ldraw (.cons (.slot 0) (.cons (.lit (.int 5)) .nil)) .nil [0, 1]) (.lit (.int 0))) .nil) [13]) .nil)) (.name 14) (.range1 (.lit (.int 2))) .nil [14]))
   (.cons (.set (.name 10) (.ite (.cmp .gt (.call F_Ldraw (.cons (.slot 0) (.cons (.lit (.int 3)) .nil)) .nil [0, 1]) (.lit (.int 0))) (.blt .tuple (.cons (.blt .listR1 (.cons (.slot 3) .nil)) .nil)) (.call F_Lsome (.cons (.slot 0) (.cons (.slot 3) (.cons (.lit (.int 2)) .nil))) .nil [0, 1, 2])))
   (.cons (.iff (.cmp .lt (.blt .len (.cons (.lc (.slot 16) (.name 16) (.e (.sub (.slot 6) (.lit (.str "steps")))) (.cons (.cmp .eq (.sub (.slot 16) (.lit (.int 0))) (.slot 11)) .nil) [16]) .nil)) (.lit (.int 4))) (.cons (.expr (.bm .append (.sub (.slot 6) (.lit (.str "steps"))) (.cons (.tup (.cons (.slot 11) (.cons (.slot 12) (.cons (.slot 7) (.cons (.slot 10) (.cons (.sub (.slot 9) (.lit (.int 0))) (.cons (.sub (.slot 9) (.lit (.int 1))) .nil))))))) .nil)))
    .nil) .nil)
   .nil)))))))
  (.cons (.for_ (.name 5) (.range1 (.slot 3)) (.cons (.set (.name 17) (.call F_Lpick (.cons (.slot 0) (.cons (.lst (.cons (.lit (.int 0)) (.cons (.lit (.int 0)) (.cons (.lit (.int 1)) (.cons (.lit (.int 2)) (.cons (.lit (.int 3)) .nil)))))) .nil)) .nil [0, 1]))
   (.cons (.expr (.bm .append (.sub (.slot 6) (.lit (.str "kinds"))) (.cons (.tup (.cons (.cmp .eq (.call F_Ldraw (.cons (.slot 0) (.cons (.lit (.int 3)) .nil)) .nil [0, 1]) (.lit (.int 0))) (.cons (.cmp .eq (.call F_Ldraw (.cons (.slot 0) (.cons (.lit (.int 4)) .nil)) .nil [0, 1]) (.lit (.int 0))) (.cons (.slot 17) (.cons (.call F_Ldraw (.cons (.slot 0) (.cons (.slot 3) .nil)) .nil [0, 1]) .nil))))) .nil)))
   .nil)))
  (.cons (.for_ (.name 5) (.range1 (.call F_Ldraw (.cons (.slot 0) (.cons (.op .add (.op .mul (.lit (.int 2)) (.slot 3)) (.lit (.int 1))) .nil)) .nil [0, 1])) (.cons (.expr (.bm .append (.sub (.slot 6) (.lit (.str "laws"))) (.cons (.tup (.cons (.call F_Ldraw (.cons (.slot 0) (.cons (.slot 3) .nil)) .nil [0, 1]) (.cons (.call F_Lpick (.cons (.slot 0) (.cons (.lst (.cons (.lit (.str "A")) (.cons (.lit (.str "B")) (.cons (.lit (.str "C")) .nil)))) .nil)) .nil [0, 1]) (.cons (.call F_Ldraw (.cons (.slot 0) (.cons (.slot 3) .nil)) .nil [0, 1]) .nil)))) .nil)))
   .nil))
  (.cons (.ret (.slot 6))
  .nil)))))))
/-- _law_pick(_law_deck_here, _law_lot) -/
def T_Lpick : Ss := (.cons (.ret (.sub (.slot 1) (.call F_Ldraw (.cons (.slot 0) (.cons (.blt .len (.cons (.slot 1) .nil)) .nil)) .nil [0, 1])))
  .nil)
/-- _law_some(_law_deck_here, _law_count, _law_many, _law_k) -/
def T_Lsome : Ss := (.cons (.ret (.blt .tuple (.cons (.lc (.slot 3) (.name 3) (.range1 (.slot 1)) (.cons (.cmp .eq (.call F_Ldraw (.cons (.slot 0) (.cons (.slot 2) .nil)) .nil [0, 1]) (.lit (.int 0))) .nil) [3]) .nil)))
  .nil)
/-- Panel.goes(self, mode, age, heard, here, signal, further, wait) -/
def T_Panel_goes : Ss := (.cons (.for_ (.tup (.cons (.name 4) (.cons (.name 5) (.cons (.name 6) .nil)))) (.e (.fld (.slot 0) "rules")) (.cons (.iff (.an (.cmp .eq (.slot 4) (.slot 1)) (.cmp .inn (.slot 5) (.slot 3))) (.cons (.ret (.tup (.cons (.slot 6) (.cons (.lit (.int 0)) .nil))))
    .nil) .nil)
   .nil))
  (.cons (.set (.name 7) (.sub (.sub (.fld (.slot 0) "modes") (.slot 1)) (.lit (.int 2))))
  (.cons (.iff (.cmp .eq (.slot 7) (.lit (.int 0))) (.cons (.ret (.tup (.cons (.slot 1) (.cons (.slot 2) .nil))))
   .nil) .nil)
  (.cons (.ret (.ite (.cmp .lt (.op .add (.slot 2) (.lit (.int 1))) (.slot 7)) (.tup (.cons (.slot 1) (.cons (.op .add (.slot 2) (.lit (.int 1))) .nil))) (.tup (.cons (.sub (.sub (.fld (.slot 0) "modes") (.slot 1)) (.lit (.int 3))) (.cons (.lit (.int 0)) .nil)))))
  .nil))))
/-- Panel.till_armed(self, mode, age, here, known) -/
def T_Panel_till_armed : Ss := (.cons (.set (.tup (.cons (.name 3) (.cons (.name 4) .nil))) (.tup (.cons (.tup (.cons (.slot 1) (.cons (.slot 2) .nil))) (.cons (.dct .nil) .nil))))
  (.cons (.while_ (.cmp .notin (.slot 3) (.slot 4)) (.cons (.iff (.sub (.sub (.fld (.slot 0) "modes") (.sub (.slot 3) (.lit (.int 0)))) (.lit (.int 0))) (.cons (.ret (.blt .len (.cons (.slot 4) .nil)))
    .nil) .nil)
   (.cons (.set (.sub (.slot 4) (.slot 3)) (.lit (.bl true)))
   (.cons (.set (.name 3) (.meth (.slot 0) "goes" (.cons (.sub (.slot 3) (.lit (.int 0))) (.cons (.sub (.slot 3) (.lit (.int 1))) (.cons (.lit (.str "")) .nil))) .nil [0, 1, 2, 3]))
   .nil))))
  (.cons (.ret (.lit .non))
  .nil)))
/-- Panel.with_wait(self, mode, wait, armed, rings, old, late) -/
def T_Panel_with_wait : Ss := (.cons (.set (.tup (.cons (.name 3) (.cons (.name 4) (.cons (.name 5) (.cons (.name 6) .nil))))) (.sub (.fld (.slot 0) "modes") (.slot 1)))
  (.cons (.ret (.mk 0 (.cons (.tup (.star (.slc (.fld (.slot 0) "modes") .none (.some (.slot 1))) (.cons (.tup (.cons (.slot 3) (.cons (.slot 4) (.cons (.slot 2) (.cons (.slot 6) .nil))))) (.star (.slc (.fld (.slot 0) "modes") (.some (.op .add (.slot 1) (.lit (.int 1)))) .none) .nil)))) (.cons (.fld (.slot 0) "rules") .nil)) .nil [0, 1, 2]))
  .nil))
def fns : List Fn := [⟨1, 10, T_law⟩, ⟨1, 3, T_Ldeck⟩, ⟨2, 12, T_Lright⟩, ⟨3, 5, T_Panel_init⟩, ⟨2, 2, T_is_mode⟩, ⟨3, 3, T_is_number⟩, ⟨1, 1, T_is_integer⟩, ⟨2, 2, T_is_index⟩, ⟨2, 2, T_is_rule⟩, ⟨1, 1, T_is_signal⟩, ⟨2, 2, T_Panel_eq⟩, ⟨4, 8, T_Lgoes⟩, ⟨3, 6, T_Ltill⟩, ⟨2, 4, T_Ldraw⟩, ⟨2, 18, T_Lworld⟩, ⟨2, 2, T_Lpick⟩, ⟨3, 4, T_Lsome⟩, ⟨4, 8, T_Panel_goes⟩, ⟨3, 5, T_Panel_till_armed⟩, ⟨3, 7, T_Panel_with_wait⟩]
def clsP : List Cl := [⟨"Panel", ["modes", "rules"], 3, [("__init__", 3), ("__eq__", 10), ("goes", 17), ("till_armed", 18), ("with_wait", 19)]⟩]
def P : Pg := ⟨fns, clsP, 1000000⟩
theorem r_law {X : Ex} {k : Nat} {h : Hh} {Q : D → Hh → Prop} {x0 : D} : Wk X Q (fnAt P (k + 1) F_law [x0] h) ↔ Wk (X.at []) (Fin Q) (evSs P (fnAt P k) T_law [some x0, none, none, none, none, none, none, none, none, none] h) := r_fn (P := P) (i := 0) (n := 1) (m := 10) rfl rfl _ rfl
theorem r_Ldeck {X : Ex} {k : Nat} {h : Hh} {Q : D → Hh → Prop} {x0 : D} : Wk X Q (fnAt P (k + 1) F_Ldeck [x0] h) ↔ Wk (X.at []) (Fin Q) (evSs P (fnAt P k) T_Ldeck [some x0, none, none] h) := r_fn (P := P) (i := 1) (n := 1) (m := 3) rfl rfl _ rfl
theorem r_Lright {X : Ex} {k : Nat} {h : Hh} {Q : D → Hh → Prop} {x0 x1 : D} : Wk X Q (fnAt P (k + 1) F_Lright [x0, x1] h) ↔ Wk (X.at []) (Fin Q) (evSs P (fnAt P k) T_Lright [some x0, some x1, none, none, none, none, none, none, none, none, none, none] h) := r_fn (P := P) (i := 2) (n := 2) (m := 12) rfl rfl _ rfl
theorem r_Panel_init {X : Ex} {k : Nat} {h : Hh} {Q : D → Hh → Prop} {x0 x1 x2 : D} : Wk X Q (fnAt P (k + 1) F_Panel_init [x0, x1, x2] h) ↔ Wk (X.at []) (Fin Q) (evSs P (fnAt P k) T_Panel_init [some x0, some x1, some x2, none, none] h) := r_fn (P := P) (i := 3) (n := 3) (m := 5) rfl rfl _ rfl
theorem r_is_mode {X : Ex} {k : Nat} {h : Hh} {Q : D → Hh → Prop} {x0 x1 : D} : Wk X Q (fnAt P (k + 1) F_is_mode [x0, x1] h) ↔ Wk (X.at []) (Fin Q) (evSs P (fnAt P k) T_is_mode [some x0, some x1] h) := r_fn (P := P) (i := 4) (n := 2) (m := 2) rfl rfl _ rfl
theorem r_is_number {X : Ex} {k : Nat} {h : Hh} {Q : D → Hh → Prop} {x0 x1 x2 : D} : Wk X Q (fnAt P (k + 1) F_is_number [x0, x1, x2] h) ↔ Wk (X.at []) (Fin Q) (evSs P (fnAt P k) T_is_number [some x0, some x1, some x2] h) := r_fn (P := P) (i := 5) (n := 3) (m := 3) rfl rfl _ rfl
theorem r_is_integer {X : Ex} {k : Nat} {h : Hh} {Q : D → Hh → Prop} {x0 : D} : Wk X Q (fnAt P (k + 1) F_is_integer [x0] h) ↔ Wk (X.at []) (Fin Q) (evSs P (fnAt P k) T_is_integer [some x0] h) := r_fn (P := P) (i := 6) (n := 1) (m := 1) rfl rfl _ rfl
theorem r_is_index {X : Ex} {k : Nat} {h : Hh} {Q : D → Hh → Prop} {x0 x1 : D} : Wk X Q (fnAt P (k + 1) F_is_index [x0, x1] h) ↔ Wk (X.at []) (Fin Q) (evSs P (fnAt P k) T_is_index [some x0, some x1] h) := r_fn (P := P) (i := 7) (n := 2) (m := 2) rfl rfl _ rfl
theorem r_is_rule {X : Ex} {k : Nat} {h : Hh} {Q : D → Hh → Prop} {x0 x1 : D} : Wk X Q (fnAt P (k + 1) F_is_rule [x0, x1] h) ↔ Wk (X.at []) (Fin Q) (evSs P (fnAt P k) T_is_rule [some x0, some x1] h) := r_fn (P := P) (i := 8) (n := 2) (m := 2) rfl rfl _ rfl
theorem r_is_signal {X : Ex} {k : Nat} {h : Hh} {Q : D → Hh → Prop} {x0 : D} : Wk X Q (fnAt P (k + 1) F_is_signal [x0] h) ↔ Wk (X.at []) (Fin Q) (evSs P (fnAt P k) T_is_signal [some x0] h) := r_fn (P := P) (i := 9) (n := 1) (m := 1) rfl rfl _ rfl
theorem r_Panel_eq {X : Ex} {k : Nat} {h : Hh} {Q : D → Hh → Prop} {x0 x1 : D} : Wk X Q (fnAt P (k + 1) F_Panel_eq [x0, x1] h) ↔ Wk (X.at []) (Fin Q) (evSs P (fnAt P k) T_Panel_eq [some x0, some x1] h) := r_fn (P := P) (i := 10) (n := 2) (m := 2) rfl rfl _ rfl
theorem r_Lgoes {X : Ex} {k : Nat} {h : Hh} {Q : D → Hh → Prop} {x0 x1 x2 x3 : D} : Wk X Q (fnAt P (k + 1) F_Lgoes [x0, x1, x2, x3] h) ↔ Wk (X.at []) (Fin Q) (evSs P (fnAt P k) T_Lgoes [some x0, some x1, some x2, some x3, none, none, none, none] h) := r_fn (P := P) (i := 11) (n := 4) (m := 8) rfl rfl _ rfl
theorem r_Ltill {X : Ex} {k : Nat} {h : Hh} {Q : D → Hh → Prop} {x0 x1 x2 : D} : Wk X Q (fnAt P (k + 1) F_Ltill [x0, x1, x2] h) ↔ Wk (X.at []) (Fin Q) (evSs P (fnAt P k) T_Ltill [some x0, some x1, some x2, none, none, none] h) := r_fn (P := P) (i := 12) (n := 3) (m := 6) rfl rfl _ rfl
theorem r_Ldraw {X : Ex} {k : Nat} {h : Hh} {Q : D → Hh → Prop} {x0 x1 : D} : Wk X Q (fnAt P (k + 1) F_Ldraw [x0, x1] h) ↔ Wk (X.at []) (Fin Q) (evSs P (fnAt P k) T_Ldraw [some x0, some x1, none, none] h) := r_fn (P := P) (i := 13) (n := 2) (m := 4) rfl rfl _ rfl
theorem r_Lworld {X : Ex} {k : Nat} {h : Hh} {Q : D → Hh → Prop} {x0 x1 : D} : Wk X Q (fnAt P (k + 1) F_Lworld [x0, x1] h) ↔ Wk (X.at []) (Fin Q) (evSs P (fnAt P k) T_Lworld [some x0, some x1, none, none, none, none, none, none, none, none, none, none, none, none, none, none, none, none] h) := r_fn (P := P) (i := 14) (n := 2) (m := 18) rfl rfl _ rfl
theorem r_Lpick {X : Ex} {k : Nat} {h : Hh} {Q : D → Hh → Prop} {x0 x1 : D} : Wk X Q (fnAt P (k + 1) F_Lpick [x0, x1] h) ↔ Wk (X.at []) (Fin Q) (evSs P (fnAt P k) T_Lpick [some x0, some x1] h) := r_fn (P := P) (i := 15) (n := 2) (m := 2) rfl rfl _ rfl
theorem r_Lsome {X : Ex} {k : Nat} {h : Hh} {Q : D → Hh → Prop} {x0 x1 x2 : D} : Wk X Q (fnAt P (k + 1) F_Lsome [x0, x1, x2] h) ↔ Wk (X.at []) (Fin Q) (evSs P (fnAt P k) T_Lsome [some x0, some x1, some x2, none] h) := r_fn (P := P) (i := 16) (n := 3) (m := 4) rfl rfl _ rfl
theorem r_Panel_goes {X : Ex} {k : Nat} {h : Hh} {Q : D → Hh → Prop} {x0 x1 x2 x3 : D} : Wk X Q (fnAt P (k + 1) F_Panel_goes [x0, x1, x2, x3] h) ↔ Wk (X.at []) (Fin Q) (evSs P (fnAt P k) T_Panel_goes [some x0, some x1, some x2, some x3, none, none, none, none] h) := r_fn (P := P) (i := 17) (n := 4) (m := 8) rfl rfl _ rfl
theorem r_Panel_till_armed {X : Ex} {k : Nat} {h : Hh} {Q : D → Hh → Prop} {x0 x1 x2 : D} : Wk X Q (fnAt P (k + 1) F_Panel_till_armed [x0, x1, x2] h) ↔ Wk (X.at []) (Fin Q) (evSs P (fnAt P k) T_Panel_till_armed [some x0, some x1, some x2, none, none] h) := r_fn (P := P) (i := 18) (n := 3) (m := 5) rfl rfl _ rfl
theorem r_Panel_with_wait {X : Ex} {k : Nat} {h : Hh} {Q : D → Hh → Prop} {x0 x1 x2 : D} : Wk X Q (fnAt P (k + 1) F_Panel_with_wait [x0, x1, x2] h) ↔ Wk (X.at []) (Fin Q) (evSs P (fnAt P k) T_Panel_with_wait [some x0, some x1, some x2, none, none, none, none] h) := r_fn (P := P) (i := 19) (n := 3) (m := 7) rfl rfl _ rfl
abbrev K_Panel : Cl := ⟨"Panel", ["modes", "rules"], 3, [("__init__", 3), ("__eq__", 10), ("goes", 17), ("till_armed", 18), ("with_wait", 19)]⟩
theorem k_Panel {Q : Cl → Prop} : Wo Q (P.cls[0]?) ↔ Q K_Panel := Iff.rfl
abbrev O_Panel (y0 y1 : D) : C := .obj 0 [("modes", y0), ("rules", y1)]
theorem a_Panel_modes {h : Hh} {i : Nat} {y0 y1 : D} (e : h[i]? = some (O_Panel y0 y1)) : fldD P h (.ref i) "modes" = some y0 := by simp only [fldD, e]; rfl
theorem a_Panel_rules {h : Hh} {i : Nat} {y0 y1 : D} (e : h[i]? = some (O_Panel y0 y1)) : fldD P h (.ref i) "rules" = some y1 := by simp only [fldD, e]; rfl
theorem s_Panel_modes {h : Hh} {i : Nat} {v : D} (e : h[i]? = some (.obj 0 [])) : setFld P h (.ref i) "modes" v = some (h.set i (.obj 0 [("modes", v)])) := by simp only [setFld, e]; rfl
theorem s_Panel_rules {h : Hh} {i : Nat} {v y0 : D} (e : h[i]? = some (.obj 0 [("modes", y0)])) : setFld P h (.ref i) "rules" v = some (h.set i (.obj 0 [("modes", y0), ("rules", v)])) := by simp only [setFld, e]; rfl
theorem m_Panel_init {h : Hh} {i : Nat} {y0 y1 : D} (e : h[i]? = some (O_Panel y0 y1)) : objM P h (.ref i) "__init__" = some F_Panel_init := by simp only [objM, e]; rfl
theorem m_Panel_eq {h : Hh} {i : Nat} {y0 y1 : D} (e : h[i]? = some (O_Panel y0 y1)) : objM P h (.ref i) "__eq__" = some F_Panel_eq := by simp only [objM, e]; rfl
theorem m_Panel_goes {h : Hh} {i : Nat} {y0 y1 : D} (e : h[i]? = some (O_Panel y0 y1)) : objM P h (.ref i) "goes" = some F_Panel_goes := by simp only [objM, e]; rfl
theorem m_Panel_till_armed {h : Hh} {i : Nat} {y0 y1 : D} (e : h[i]? = some (O_Panel y0 y1)) : objM P h (.ref i) "till_armed" = some F_Panel_till_armed := by simp only [objM, e]; rfl
theorem m_Panel_with_wait {h : Hh} {i : Nat} {y0 y1 : D} (e : h[i]? = some (O_Panel y0 y1)) : objM P h (.ref i) "with_wait" = some F_Panel_with_wait := by simp only [objM, e]; rfl
end Lw
end
section
set_option autoImplicit false
set_option Elab.async false
set_option linter.all false
set_option maxRecDepth 100000
set_option maxHeartbeats 0
namespace Lw
open PySem Q
theorem b_law : tab.body (d0, n0) = some T_law := by kernel_rfl
theorem b_Ldeck : tab.body (d1, n1) = some T_Ldeck := by kernel_rfl
theorem b_Lright : tab.body (d2, n2) = some T_Lright := by kernel_rfl
theorem b_Panel_init : tab.body (d3, n3) = some T_Panel_init := by kernel_rfl
theorem b_is_mode : tab.body (d4, n4) = some T_is_mode := by kernel_rfl
theorem b_is_number : tab.body (d5, n5) = some T_is_number := by kernel_rfl
theorem b_is_integer : tab.body (d6, n6) = some T_is_integer := by kernel_rfl
theorem b_is_index : tab.body (d7, n7) = some T_is_index := by kernel_rfl
theorem b_is_rule : tab.body (d8, n8) = some T_is_rule := by kernel_rfl
theorem b_is_signal : tab.body (d9, n9) = some T_is_signal := by kernel_rfl
theorem b_Panel_eq : tab.body (d10, n10) = some T_Panel_eq := by kernel_rfl
theorem b_Lgoes : tab.body (d11, n11) = some T_Lgoes := by kernel_rfl
theorem b_Ltill : tab.body (d12, n12) = some T_Ltill := by kernel_rfl
theorem b_Ldraw : tab.body (d13, n13) = some T_Ldraw := by kernel_rfl
theorem b_Lworld : tab.body (d14, n14) = some T_Lworld := by kernel_rfl
theorem b_Lpick : tab.body (d15, n15) = some T_Lpick := by kernel_rfl
theorem b_Lsome : tab.body (d16, n16) = some T_Lsome := by kernel_rfl
theorem b_Panel_goes : tab.body (d17, n17) = some T_Panel_goes := by kernel_rfl
theorem b_Panel_till_armed : tab.body (d18, n18) = some T_Panel_till_armed := by kernel_rfl
theorem b_Panel_with_wait : tab.body (d19, n19) = some T_Panel_with_wait := by kernel_rfl
theorem fns_eq : tab.fns = fns := by kernel_rfl
theorem P_eq : tab.P = P := by
  have e : tab.P = ⟨tab.fns, cls.map (·.2), 1000000⟩ := rfl
  rw [e, fns_eq]; rfl
end Lw
end
section
set_option autoImplicit false
set_option Elab.async false
set_option linter.all false
set_option maxRecDepth 8000
set_option maxHeartbeats 4000000
namespace Lw
open PySem Q Qw
section
variable {X : Ex} {k : Nat} {h : Hh} {Q : D → Hh → Prop}
def isIntB (d : D) : Bool := isI d && !isB d
theorem is_integer_ok {d : D} (q : Q (.bl (isIntB d)) h) : Wk X Q (fnAt P (k + 1) F_is_integer [d] h) := by
  rw [r_is_integer]
  unfold T_is_integer
  cases d <;> simp -dsimp -failIfUnchanged only [↓wsq_n, ↓wsq_r, ↓wfin_n, ↓wfin_r, ↓ws_nil, ↓ws_cons, ↓ws_expr, ↓ws_set, ↓ws_ret, ↓ws_iff, ↓ws_pass, ↓ws_fb, ↓ws_for, ↓ws_while, ↓ws_wc, ↓ws_wb, ↓wt_tup, ↓wt_nil, ↓wt_cons, ↓wt_sub, ↓wt_fld, ↓we_slot, ↓we_lit, ↓we_op, ↓we_cmp, ↓we_chain, ↓we_nt, ↓we_neg, ↓we_an, ↓we_orr, ↓we_ite, ↓we_tup, ↓we_lst, ↓we_dct, ↓we_sub, ↓we_slc, ↓we_rev, ↓we_fld, ↓we_call, ↓wmk_n, ↓we_mk, ↓we_meth, ↓we_blt, ↓we_bm, ↓we_lc, ↓wes_nil, ↓wes_cons, ↓wes_star, ↓wts_nil, ↓wts_cons, ↓wo_none, ↓wo_some, ↓wi_e, ↓wi_r1, ↓wi_r2, ↓wi_enum, ↓wi_enumS, ↓wi_zip, ↓wnx_n, ↓wnx_r, ↓blq, ↓v_kindS, ↓wb_join, ↓wb_app, ↓wb_pop, ↓wb_ext, ↓wo_lift, ↓x_name, ↓x_lb, ↓x_aug, ↓x_isi, ↓v_isI, ↓v_isB, ↓v_isS, ↓v_isT, ↓v_lenT, ↓v_int, ↓v_max2, ↓v_all, ↓v_any, ↓v_tupL, ↓v_disp0, ↓wk_ok, ↓wo_s, ↓wp_s, ↓wi_i, ↓v_slot0, ↓v_slotS, ↓ss_0, ↓ss_S, ↓sr_n, ↓sr_c, ↓sw_n, ↓sw_c, ↓v_opI, ↓v_add, ↓v_sub, ↓v_tr, ↓v_trO, ↓wf_t, ↓wf_f, ↓v_ix0, ↓v_ix1, ↓v_ix2, ↓v_ix3, ↓v_ix4, ↓v_ix5, ↓v_src, ↓v_perm, ↓wn_0, ↓wn_S, ↓wn_a0, ↓wn_aS, ↓wn_an, ↓dr_n, ↓dr_c, ↓wr_n, ↓wr_c, c_eqI, c_neI, c_ltI, c_gtI, c_leI, c_geI, d_ltI, d_gtI, d_leI, d_geI, c_isN, c_isntN, kindS, items_tup, true_and, and_true, ln_0, ln_1, ln_2, ln_3, ln_4, ln_5, ln_6, ln_7, ln_8, ln_9, ln_10, ln_11, ln_12, ln_13, ln_14, ln_15, ln_16, ln_17, ln_18, ln_19, ln_20, isI, isB, Bool.not_true, Bool.not_false] <;> exact q
def isNumB (lo hi : Int) : D → Bool
  | .int i => decide (lo ≤ i) && decide (i ≤ hi)
  | _ => false
theorem is_number_ok {lo hi : Int} {d : D} (q : Q (.bl (isNumB lo hi d)) h) : Wk X Q (fnAt P (k + 2) F_is_number [.int lo, .int hi, d] h) := by
  rw [r_is_number]
  unfold T_is_number
  simp -dsimp -failIfUnchanged only [↓wsq_n, ↓wsq_r, ↓wfin_n, ↓wfin_r, ↓ws_nil, ↓ws_cons, ↓ws_expr, ↓ws_set, ↓ws_ret, ↓ws_iff, ↓ws_pass, ↓ws_fb, ↓ws_for, ↓ws_while, ↓ws_wc, ↓ws_wb, ↓wt_tup, ↓wt_nil, ↓wt_cons, ↓wt_sub, ↓wt_fld, ↓we_slot, ↓we_lit, ↓we_op, ↓we_cmp, ↓we_chain, ↓we_nt, ↓we_neg, ↓we_an, ↓we_orr, ↓we_ite, ↓we_tup, ↓we_lst, ↓we_dct, ↓we_sub, ↓we_slc, ↓we_rev, ↓we_fld, ↓we_call, ↓wmk_n, ↓we_mk, ↓we_meth, ↓we_blt, ↓we_bm, ↓we_lc, ↓wes_nil, ↓wes_cons, ↓wes_star, ↓wts_nil, ↓wts_cons, ↓wo_none, ↓wo_some, ↓wi_e, ↓wi_r1, ↓wi_r2, ↓wi_enum, ↓wi_enumS, ↓wi_zip, ↓wnx_n, ↓wnx_r, ↓blq, ↓v_kindS, ↓wb_join, ↓wb_app, ↓wb_pop, ↓wb_ext, ↓wo_lift, ↓x_name, ↓x_lb, ↓x_aug, ↓x_isi, ↓v_isI, ↓v_isB, ↓v_isS, ↓v_isT, ↓v_lenT, ↓v_int, ↓v_max2, ↓v_all, ↓v_any, ↓v_tupL, ↓v_disp0, ↓wk_ok, ↓wo_s, ↓wp_s, ↓wi_i, ↓v_slot0, ↓v_slotS, ↓ss_0, ↓ss_S, ↓sr_n, ↓sr_c, ↓sw_n, ↓sw_c, ↓v_opI, ↓v_add, ↓v_sub, ↓v_tr, ↓v_trO, ↓wf_t, ↓wf_f, ↓v_ix0, ↓v_ix1, ↓v_ix2, ↓v_ix3, ↓v_ix4, ↓v_ix5, ↓v_src, ↓v_perm, ↓wn_0, ↓wn_S, ↓wn_a0, ↓wn_aS, ↓wn_an, ↓dr_n, ↓dr_c, ↓wr_n, ↓wr_c, c_eqI, c_neI, c_ltI, c_gtI, c_leI, c_geI, d_ltI, d_gtI, d_leI, d_geI, c_isN, c_isntN, kindS, items_tup, true_and, and_true, ln_0, ln_1, ln_2, ln_3, ln_4, ln_5, ln_6, ln_7, ln_8, ln_9, ln_10, ln_11, ln_12, ln_13, ln_14, ln_15, ln_16, ln_17, ln_18, ln_19, ln_20]
  refine is_integer_ok ?_
  cases d with
  | int i =>
    simp -dsimp -failIfUnchanged only [↓wsq_n, ↓wsq_r, ↓wfin_n, ↓wfin_r, ↓ws_nil, ↓ws_cons, ↓ws_expr, ↓ws_set, ↓ws_ret, ↓ws_iff, ↓ws_pass, ↓ws_fb, ↓ws_for, ↓ws_while, ↓ws_wc, ↓ws_wb, ↓wt_tup, ↓wt_nil, ↓wt_cons, ↓wt_sub, ↓wt_fld, ↓we_slot, ↓we_lit, ↓we_op, ↓we_cmp, ↓we_chain, ↓we_nt, ↓we_neg, ↓we_an, ↓we_orr, ↓we_ite, ↓we_tup, ↓we_lst, ↓we_dct, ↓we_sub, ↓we_slc, ↓we_rev, ↓we_fld, ↓we_call, ↓wmk_n, ↓we_mk, ↓we_meth, ↓we_blt, ↓we_bm, ↓we_lc, ↓wes_nil, ↓wes_cons, ↓wes_star, ↓wts_nil, ↓wts_cons, ↓wo_none, ↓wo_some, ↓wi_e, ↓wi_r1, ↓wi_r2, ↓wi_enum, ↓wi_enumS, ↓wi_zip, ↓wnx_n, ↓wnx_r, ↓blq, ↓v_kindS, ↓wb_join, ↓wb_app, ↓wb_pop, ↓wb_ext, ↓wo_lift, ↓x_name, ↓x_lb, ↓x_aug, ↓x_isi, ↓v_isI, ↓v_isB, ↓v_isS, ↓v_isT, ↓v_lenT, ↓v_int, ↓v_max2, ↓v_all, ↓v_any, ↓v_tupL, ↓v_disp0, ↓wk_ok, ↓wo_s, ↓wp_s, ↓wi_i, ↓v_slot0, ↓v_slotS, ↓ss_0, ↓ss_S, ↓sr_n, ↓sr_c, ↓sw_n, ↓sw_c, ↓v_opI, ↓v_add, ↓v_sub, ↓v_tr, ↓v_trO, ↓wf_t, ↓wf_f, ↓v_ix0, ↓v_ix1, ↓v_ix2, ↓v_ix3, ↓v_ix4, ↓v_ix5, ↓v_src, ↓v_perm, ↓wn_0, ↓wn_S, ↓wn_a0, ↓wn_aS, ↓wn_an, ↓dr_n, ↓dr_c, ↓wr_n, ↓wr_c, c_eqI, c_neI, c_ltI, c_gtI, c_leI, c_geI, d_ltI, d_gtI, d_leI, d_geI, c_isN, c_isntN, kindS, items_tup, true_and, and_true, ln_0, ln_1, ln_2, ln_3, ln_4, ln_5, ln_6, ln_7, ln_8, ln_9, ln_10, ln_11, ln_12, ln_13, ln_14, ln_15, ln_16, ln_17, ln_18, ln_19, ln_20, isIntB, isI, isB, Bool.not_true, Bool.not_false, Bool.and_true]
    refine wf_i (fun e => ?_) (fun e => ?_)
    · simp -dsimp -failIfUnchanged only [↓wsq_n, ↓wsq_r, ↓wfin_n, ↓wfin_r, ↓ws_nil, ↓ws_cons, ↓ws_expr, ↓ws_set, ↓ws_ret, ↓ws_iff, ↓ws_pass, ↓ws_fb, ↓ws_for, ↓ws_while, ↓ws_wc, ↓ws_wb, ↓wt_tup, ↓wt_nil, ↓wt_cons, ↓wt_sub, ↓wt_fld, ↓we_slot, ↓we_lit, ↓we_op, ↓we_cmp, ↓we_chain, ↓we_nt, ↓we_neg, ↓we_an, ↓we_orr, ↓we_ite, ↓we_tup, ↓we_lst, ↓we_dct, ↓we_sub, ↓we_slc, ↓we_rev, ↓we_fld, ↓we_call, ↓wmk_n, ↓we_mk, ↓we_meth, ↓we_blt, ↓we_bm, ↓we_lc, ↓wes_nil, ↓wes_cons, ↓wes_star, ↓wts_nil, ↓wts_cons, ↓wo_none, ↓wo_some, ↓wi_e, ↓wi_r1, ↓wi_r2, ↓wi_enum, ↓wi_enumS, ↓wi_zip, ↓wnx_n, ↓wnx_r, ↓blq, ↓v_kindS, ↓wb_join, ↓wb_app, ↓wb_pop, ↓wb_ext, ↓wo_lift, ↓x_name, ↓x_lb, ↓x_aug, ↓x_isi, ↓v_isI, ↓v_isB, ↓v_isS, ↓v_isT, ↓v_lenT, ↓v_int, ↓v_max2, ↓v_all, ↓v_any, ↓v_tupL, ↓v_disp0, ↓wk_ok, ↓wo_s, ↓wp_s, ↓wi_i, ↓v_slot0, ↓v_slotS, ↓ss_0, ↓ss_S, ↓sr_n, ↓sr_c, ↓sw_n, ↓sw_c, ↓v_opI, ↓v_add, ↓v_sub, ↓v_tr, ↓v_trO, ↓wf_t, ↓wf_f, ↓v_ix0, ↓v_ix1, ↓v_ix2, ↓v_ix3, ↓v_ix4, ↓v_ix5, ↓v_src, ↓v_perm, ↓wn_0, ↓wn_S, ↓wn_a0, ↓wn_aS, ↓wn_an, ↓dr_n, ↓dr_c, ↓wr_n, ↓wr_c, c_eqI, c_neI, c_ltI, c_gtI, c_leI, c_geI, d_ltI, d_gtI, d_leI, d_geI, c_isN, c_isntN, kindS, items_tup, true_and, and_true, ln_0, ln_1, ln_2, ln_3, ln_4, ln_5, ln_6, ln_7, ln_8, ln_9, ln_10, ln_11, ln_12, ln_13, ln_14, ln_15, ln_16, ln_17, ln_18, ln_19, ln_20]; simpa [isNumB, e] using q
    · simp -dsimp -failIfUnchanged only [↓wsq_n, ↓wsq_r, ↓wfin_n, ↓wfin_r, ↓ws_nil, ↓ws_cons, ↓ws_expr, ↓ws_set, ↓ws_ret, ↓ws_iff, ↓ws_pass, ↓ws_fb, ↓ws_for, ↓ws_while, ↓ws_wc, ↓ws_wb, ↓wt_tup, ↓wt_nil, ↓wt_cons, ↓wt_sub, ↓wt_fld, ↓we_slot, ↓we_lit, ↓we_op, ↓we_cmp, ↓we_chain, ↓we_nt, ↓we_neg, ↓we_an, ↓we_orr, ↓we_ite, ↓we_tup, ↓we_lst, ↓we_dct, ↓we_sub, ↓we_slc, ↓we_rev, ↓we_fld, ↓we_call, ↓wmk_n, ↓we_mk, ↓we_meth, ↓we_blt, ↓we_bm, ↓we_lc, ↓wes_nil, ↓wes_cons, ↓wes_star, ↓wts_nil, ↓wts_cons, ↓wo_none, ↓wo_some, ↓wi_e, ↓wi_r1, ↓wi_r2, ↓wi_enum, ↓wi_enumS, ↓wi_zip, ↓wnx_n, ↓wnx_r, ↓blq, ↓v_kindS, ↓wb_join, ↓wb_app, ↓wb_pop, ↓wb_ext, ↓wo_lift, ↓x_name, ↓x_lb, ↓x_aug, ↓x_isi, ↓v_isI, ↓v_isB, ↓v_isS, ↓v_isT, ↓v_lenT, ↓v_int, ↓v_max2, ↓v_all, ↓v_any, ↓v_tupL, ↓v_disp0, ↓wk_ok, ↓wo_s, ↓wp_s, ↓wi_i, ↓v_slot0, ↓v_slotS, ↓ss_0, ↓ss_S, ↓sr_n, ↓sr_c, ↓sw_n, ↓sw_c, ↓v_opI, ↓v_add, ↓v_sub, ↓v_tr, ↓v_trO, ↓wf_t, ↓wf_f, ↓v_ix0, ↓v_ix1, ↓v_ix2, ↓v_ix3, ↓v_ix4, ↓v_ix5, ↓v_src, ↓v_perm, ↓wn_0, ↓wn_S, ↓wn_a0, ↓wn_aS, ↓wn_an, ↓dr_n, ↓dr_c, ↓wr_n, ↓wr_c, c_eqI, c_neI, c_ltI, c_gtI, c_leI, c_geI, d_ltI, d_gtI, d_leI, d_geI, c_isN, c_isntN, kindS, items_tup, true_and, and_true, ln_0, ln_1, ln_2, ln_3, ln_4, ln_5, ln_6, ln_7, ln_8, ln_9, ln_10, ln_11, ln_12, ln_13, ln_14, ln_15, ln_16, ln_17, ln_18, ln_19, ln_20]; simpa [isNumB, e] using q
  | _ => exact q
def isIxB (n : Nat) : D → Bool
  | .int i => decide (0 ≤ i) && decide (i < n)
  | _ => false
theorem is_index_ok {n : Nat} {d : D} (q : Q (.bl (isIxB n d)) h) : Wk X Q (fnAt P (k + 2) F_is_index [.int n, d] h) := by
  rw [r_is_index]
  unfold T_is_index
  simp -dsimp -failIfUnchanged only [↓wsq_n, ↓wsq_r, ↓wfin_n, ↓wfin_r, ↓ws_nil, ↓ws_cons, ↓ws_expr, ↓ws_set, ↓ws_ret, ↓ws_iff, ↓ws_pass, ↓ws_fb, ↓ws_for, ↓ws_while, ↓ws_wc, ↓ws_wb, ↓wt_tup, ↓wt_nil, ↓wt_cons, ↓wt_sub, ↓wt_fld, ↓we_slot, ↓we_lit, ↓we_op, ↓we_cmp, ↓we_chain, ↓we_nt, ↓we_neg, ↓we_an, ↓we_orr, ↓we_ite, ↓we_tup, ↓we_lst, ↓we_dct, ↓we_sub, ↓we_slc, ↓we_rev, ↓we_fld, ↓we_call, ↓wmk_n, ↓we_mk, ↓we_meth, ↓we_blt, ↓we_bm, ↓we_lc, ↓wes_nil, ↓wes_cons, ↓wes_star, ↓wts_nil, ↓wts_cons, ↓wo_none, ↓wo_some, ↓wi_e, ↓wi_r1, ↓wi_r2, ↓wi_enum, ↓wi_enumS, ↓wi_zip, ↓wnx_n, ↓wnx_r, ↓blq, ↓v_kindS, ↓wb_join, ↓wb_app, ↓wb_pop, ↓wb_ext, ↓wo_lift, ↓x_name, ↓x_lb, ↓x_aug, ↓x_isi, ↓v_isI, ↓v_isB, ↓v_isS, ↓v_isT, ↓v_lenT, ↓v_int, ↓v_max2, ↓v_all, ↓v_any, ↓v_tupL, ↓v_disp0, ↓wk_ok, ↓wo_s, ↓wp_s, ↓wi_i, ↓v_slot0, ↓v_slotS, ↓ss_0, ↓ss_S, ↓sr_n, ↓sr_c, ↓sw_n, ↓sw_c, ↓v_opI, ↓v_add, ↓v_sub, ↓v_tr, ↓v_trO, ↓wf_t, ↓wf_f, ↓v_ix0, ↓v_ix1, ↓v_ix2, ↓v_ix3, ↓v_ix4, ↓v_ix5, ↓v_src, ↓v_perm, ↓wn_0, ↓wn_S, ↓wn_a0, ↓wn_aS, ↓wn_an, ↓dr_n, ↓dr_c, ↓wr_n, ↓wr_c, c_eqI, c_neI, c_ltI, c_gtI, c_leI, c_geI, d_ltI, d_gtI, d_leI, d_geI, c_isN, c_isntN, kindS, items_tup, true_and, and_true, ln_0, ln_1, ln_2, ln_3, ln_4, ln_5, ln_6, ln_7, ln_8, ln_9, ln_10, ln_11, ln_12, ln_13, ln_14, ln_15, ln_16, ln_17, ln_18, ln_19, ln_20]
  refine is_integer_ok ?_
  cases d with
  | int i =>
    simp -dsimp -failIfUnchanged only [↓wsq_n, ↓wsq_r, ↓wfin_n, ↓wfin_r, ↓ws_nil, ↓ws_cons, ↓ws_expr, ↓ws_set, ↓ws_ret, ↓ws_iff, ↓ws_pass, ↓ws_fb, ↓ws_for, ↓ws_while, ↓ws_wc, ↓ws_wb, ↓wt_tup, ↓wt_nil, ↓wt_cons, ↓wt_sub, ↓wt_fld, ↓we_slot, ↓we_lit, ↓we_op, ↓we_cmp, ↓we_chain, ↓we_nt, ↓we_neg, ↓we_an, ↓we_orr, ↓we_ite, ↓we_tup, ↓we_lst, ↓we_dct, ↓we_sub, ↓we_slc, ↓we_rev, ↓we_fld, ↓we_call, ↓wmk_n, ↓we_mk, ↓we_meth, ↓we_blt, ↓we_bm, ↓we_lc, ↓wes_nil, ↓wes_cons, ↓wes_star, ↓wts_nil, ↓wts_cons, ↓wo_none, ↓wo_some, ↓wi_e, ↓wi_r1, ↓wi_r2, ↓wi_enum, ↓wi_enumS, ↓wi_zip, ↓wnx_n, ↓wnx_r, ↓blq, ↓v_kindS, ↓wb_join, ↓wb_app, ↓wb_pop, ↓wb_ext, ↓wo_lift, ↓x_name, ↓x_lb, ↓x_aug, ↓x_isi, ↓v_isI, ↓v_isB, ↓v_isS, ↓v_isT, ↓v_lenT, ↓v_int, ↓v_max2, ↓v_all, ↓v_any, ↓v_tupL, ↓v_disp0, ↓wk_ok, ↓wo_s, ↓wp_s, ↓wi_i, ↓v_slot0, ↓v_slotS, ↓ss_0, ↓ss_S, ↓sr_n, ↓sr_c, ↓sw_n, ↓sw_c, ↓v_opI, ↓v_add, ↓v_sub, ↓v_tr, ↓v_trO, ↓wf_t, ↓wf_f, ↓v_ix0, ↓v_ix1, ↓v_ix2, ↓v_ix3, ↓v_ix4, ↓v_ix5, ↓v_src, ↓v_perm, ↓wn_0, ↓wn_S, ↓wn_a0, ↓wn_aS, ↓wn_an, ↓dr_n, ↓dr_c, ↓wr_n, ↓wr_c, c_eqI, c_neI, c_ltI, c_gtI, c_leI, c_geI, d_ltI, d_gtI, d_leI, d_geI, c_isN, c_isntN, kindS, items_tup, true_and, and_true, ln_0, ln_1, ln_2, ln_3, ln_4, ln_5, ln_6, ln_7, ln_8, ln_9, ln_10, ln_11, ln_12, ln_13, ln_14, ln_15, ln_16, ln_17, ln_18, ln_19, ln_20, isIntB, isI, isB, Bool.not_true, Bool.not_false, Bool.and_true]
    refine wf_i (fun e => ?_) (fun e => ?_)
    · simp -dsimp -failIfUnchanged only [↓wsq_n, ↓wsq_r, ↓wfin_n, ↓wfin_r, ↓ws_nil, ↓ws_cons, ↓ws_expr, ↓ws_set, ↓ws_ret, ↓ws_iff, ↓ws_pass, ↓ws_fb, ↓ws_for, ↓ws_while, ↓ws_wc, ↓ws_wb, ↓wt_tup, ↓wt_nil, ↓wt_cons, ↓wt_sub, ↓wt_fld, ↓we_slot, ↓we_lit, ↓we_op, ↓we_cmp, ↓we_chain, ↓we_nt, ↓we_neg, ↓we_an, ↓we_orr, ↓we_ite, ↓we_tup, ↓we_lst, ↓we_dct, ↓we_sub, ↓we_slc, ↓we_rev, ↓we_fld, ↓we_call, ↓wmk_n, ↓we_mk, ↓we_meth, ↓we_blt, ↓we_bm, ↓we_lc, ↓wes_nil, ↓wes_cons, ↓wes_star, ↓wts_nil, ↓wts_cons, ↓wo_none, ↓wo_some, ↓wi_e, ↓wi_r1, ↓wi_r2, ↓wi_enum, ↓wi_enumS, ↓wi_zip, ↓wnx_n, ↓wnx_r, ↓blq, ↓v_kindS, ↓wb_join, ↓wb_app, ↓wb_pop, ↓wb_ext, ↓wo_lift, ↓x_name, ↓x_lb, ↓x_aug, ↓x_isi, ↓v_isI, ↓v_isB, ↓v_isS, ↓v_isT, ↓v_lenT, ↓v_int, ↓v_max2, ↓v_all, ↓v_any, ↓v_tupL, ↓v_disp0, ↓wk_ok, ↓wo_s, ↓wp_s, ↓wi_i, ↓v_slot0, ↓v_slotS, ↓ss_0, ↓ss_S, ↓sr_n, ↓sr_c, ↓sw_n, ↓sw_c, ↓v_opI, ↓v_add, ↓v_sub, ↓v_tr, ↓v_trO, ↓wf_t, ↓wf_f, ↓v_ix0, ↓v_ix1, ↓v_ix2, ↓v_ix3, ↓v_ix4, ↓v_ix5, ↓v_src, ↓v_perm, ↓wn_0, ↓wn_S, ↓wn_a0, ↓wn_aS, ↓wn_an, ↓dr_n, ↓dr_c, ↓wr_n, ↓wr_c, c_eqI, c_neI, c_ltI, c_gtI, c_leI, c_geI, d_ltI, d_gtI, d_leI, d_geI, c_isN, c_isntN, kindS, items_tup, true_and, and_true, ln_0, ln_1, ln_2, ln_3, ln_4, ln_5, ln_6, ln_7, ln_8, ln_9, ln_10, ln_11, ln_12, ln_13, ln_14, ln_15, ln_16, ln_17, ln_18, ln_19, ln_20]; simpa [isIxB, e] using q
    · simp -dsimp -failIfUnchanged only [↓wsq_n, ↓wsq_r, ↓wfin_n, ↓wfin_r, ↓ws_nil, ↓ws_cons, ↓ws_expr, ↓ws_set, ↓ws_ret, ↓ws_iff, ↓ws_pass, ↓ws_fb, ↓ws_for, ↓ws_while, ↓ws_wc, ↓ws_wb, ↓wt_tup, ↓wt_nil, ↓wt_cons, ↓wt_sub, ↓wt_fld, ↓we_slot, ↓we_lit, ↓we_op, ↓we_cmp, ↓we_chain, ↓we_nt, ↓we_neg, ↓we_an, ↓we_orr, ↓we_ite, ↓we_tup, ↓we_lst, ↓we_dct, ↓we_sub, ↓we_slc, ↓we_rev, ↓we_fld, ↓we_call, ↓wmk_n, ↓we_mk, ↓we_meth, ↓we_blt, ↓we_bm, ↓we_lc, ↓wes_nil, ↓wes_cons, ↓wes_star, ↓wts_nil, ↓wts_cons, ↓wo_none, ↓wo_some, ↓wi_e, ↓wi_r1, ↓wi_r2, ↓wi_enum, ↓wi_enumS, ↓wi_zip, ↓wnx_n, ↓wnx_r, ↓blq, ↓v_kindS, ↓wb_join, ↓wb_app, ↓wb_pop, ↓wb_ext, ↓wo_lift, ↓x_name, ↓x_lb, ↓x_aug, ↓x_isi, ↓v_isI, ↓v_isB, ↓v_isS, ↓v_isT, ↓v_lenT, ↓v_int, ↓v_max2, ↓v_all, ↓v_any, ↓v_tupL, ↓v_disp0, ↓wk_ok, ↓wo_s, ↓wp_s, ↓wi_i, ↓v_slot0, ↓v_slotS, ↓ss_0, ↓ss_S, ↓sr_n, ↓sr_c, ↓sw_n, ↓sw_c, ↓v_opI, ↓v_add, ↓v_sub, ↓v_tr, ↓v_trO, ↓wf_t, ↓wf_f, ↓v_ix0, ↓v_ix1, ↓v_ix2, ↓v_ix3, ↓v_ix4, ↓v_ix5, ↓v_src, ↓v_perm, ↓wn_0, ↓wn_S, ↓wn_a0, ↓wn_aS, ↓wn_an, ↓dr_n, ↓dr_c, ↓wr_n, ↓wr_c, c_eqI, c_neI, c_ltI, c_gtI, c_leI, c_geI, d_ltI, d_gtI, d_leI, d_geI, c_isN, c_isntN, kindS, items_tup, true_and, and_true, ln_0, ln_1, ln_2, ln_3, ln_4, ln_5, ln_6, ln_7, ln_8, ln_9, ln_10, ln_11, ln_12, ln_13, ln_14, ln_15, ln_16, ln_17, ln_18, ln_19, ln_20]; simpa [isIxB, e] using q
  | _ => exact q
structure Md where
  armed : Bool
  rings : Bool
  wait : Nat
  late : Nat
  deriving DecidableEq
structure Rl where
  here : Nat
  sig : Nat
  next : Nat
  deriving DecidableEq
def encM (m : Md) : D := .tup [.bl m.armed, .bl m.rings, .int m.wait, .int m.late]
def encR (r : Rl) : D := .tup [.int r.here, .str ⟨#[r.sig]⟩, .int r.next]
def encA (p : Nat × Nat) : D := .tup [.int p.1, .int p.2]
def goesP (ms : List Md) (rs : List Rl) (m a : Nat) (y : List Nat) : Nat × Nat :=
  match rs.find? (fun r => decide (r.here = m) && decide (r.sig ∈ y)) with
  | some r => (r.next, 0)
  | none => match ms[m]? with
    | none => (m, a)
    | some md => if md.wait = 0 then (m, a) else if a + 1 < md.wait then (m, a + 1) else (md.late, 0)
theorem goes_ok {p m a : Nat} {y : Str} {ms : List Md} {rs : List Rl} (hp : h[p]? = some (O_Panel (.tup (ms.map encM)) (.tup (rs.map encR)))) (hm : m < ms.length)
    (q : Q (encA (goesP ms rs m a y.cps.toList)) h) : Wk X Q (fnAt P (k + 1) F_Panel_goes [.ref p, .int m, .int a, .str y] h) := by
  rw [r_Panel_goes]
  unfold T_Panel_goes
  simp -dsimp -failIfUnchanged only [↓wsq_n, ↓wsq_r, ↓wfin_n, ↓wfin_r, ↓ws_nil, ↓ws_cons, ↓ws_expr, ↓ws_set, ↓ws_ret, ↓ws_iff, ↓ws_pass, ↓ws_fb, ↓ws_for, ↓ws_while, ↓ws_wc, ↓ws_wb, ↓wt_tup, ↓wt_nil, ↓wt_cons, ↓wt_sub, ↓wt_fld, ↓we_slot, ↓we_lit, ↓we_op, ↓we_cmp, ↓we_chain, ↓we_nt, ↓we_neg, ↓we_an, ↓we_orr, ↓we_ite, ↓we_tup, ↓we_lst, ↓we_dct, ↓we_sub, ↓we_slc, ↓we_rev, ↓we_fld, ↓we_call, ↓wmk_n, ↓we_mk, ↓we_meth, ↓we_blt, ↓we_bm, ↓we_lc, ↓wes_nil, ↓wes_cons, ↓wes_star, ↓wts_nil, ↓wts_cons, ↓wo_none, ↓wo_some, ↓wi_e, ↓wi_r1, ↓wi_r2, ↓wi_enum, ↓wi_enumS, ↓wi_zip, ↓wnx_n, ↓wnx_r, ↓blq, ↓v_kindS, ↓wb_join, ↓wb_app, ↓wb_pop, ↓wb_ext, ↓wo_lift, ↓x_name, ↓x_lb, ↓x_aug, ↓x_isi, ↓v_isI, ↓v_isB, ↓v_isS, ↓v_isT, ↓v_lenT, ↓v_int, ↓v_max2, ↓v_all, ↓v_any, ↓v_tupL, ↓v_disp0, ↓wk_ok, ↓wo_s, ↓wp_s, ↓wi_i, ↓v_slot0, ↓v_slotS, ↓ss_0, ↓ss_S, ↓sr_n, ↓sr_c, ↓sw_n, ↓sw_c, ↓v_opI, ↓v_add, ↓v_sub, ↓v_tr, ↓v_trO, ↓wf_t, ↓wf_f, ↓v_ix0, ↓v_ix1, ↓v_ix2, ↓v_ix3, ↓v_ix4, ↓v_ix5, ↓v_src, ↓v_perm, ↓wn_0, ↓wn_S, ↓wn_a0, ↓wn_aS, ↓wn_an, ↓dr_n, ↓dr_c, ↓wr_n, ↓wr_c, c_eqI, c_neI, c_ltI, c_gtI, c_leI, c_geI, d_ltI, d_gtI, d_leI, d_geI, c_isN, c_isntN, kindS, items_tup, true_and, and_true, ln_0, ln_1, ln_2, ln_3, ln_4, ln_5, ln_6, ln_7, ln_8, ln_9, ln_10, ln_11, ln_12, ln_13, ln_14, ln_15, ln_16, ln_17, ln_18, ln_19, ln_20, a_Panel_rules hp, ↓w_imm]
  suffices H : ∀ (rs' : List Rl) (s4 s5 s6 : Option D), rs'.find? (fun r => decide (r.here = m) && decide (r.sig ∈ y.cps.toList)) = rs.find? (fun r => decide (r.here = m) && decide (r.sig ∈ y.cps.toList)) → Wk (X.at []) (Sqw P (fnAt P k) _ _ (Fin Q)) (goForL _ (rs'.map encR) [some (.ref p), some (.int m), some (.int a), some (.str y), s4, s5, s6, none] h) from H rs none none none rfl
  intro rs'
  induction rs' with
  | nil =>
    intro s4 s5 s6 e
    have e' : rs.find? (fun r => decide (r.here = m) && decide (r.sig ∈ y.cps.toList)) = none := e.symm
    simp only [goesP, e', List.getElem?_eq_getElem hm] at q
    ((try simp -dsimp -failIfUnchanged only [↓wsq_n, ↓wsq_r, ↓wfin_n, ↓wfin_r, ↓ws_nil, ↓ws_cons, ↓ws_expr, ↓ws_set, ↓ws_ret, ↓ws_iff, ↓ws_pass, ↓ws_fb, ↓ws_for, ↓ws_while, ↓ws_wc, ↓ws_wb, ↓wt_tup, ↓wt_nil, ↓wt_cons, ↓wt_sub, ↓wt_fld, ↓we_slot, ↓we_lit, ↓we_op, ↓we_cmp, ↓we_chain, ↓we_nt, ↓we_neg, ↓we_an, ↓we_orr, ↓we_ite, ↓we_tup, ↓we_lst, ↓we_dct, ↓we_sub, ↓we_slc, ↓we_rev, ↓we_fld, ↓we_call, ↓wmk_n, ↓we_mk, ↓we_meth, ↓we_blt, ↓we_bm, ↓we_lc, ↓wes_nil, ↓wes_cons, ↓wes_star, ↓wts_nil, ↓wts_cons, ↓wo_none, ↓wo_some, ↓wi_e, ↓wi_r1, ↓wi_r2, ↓wi_enum, ↓wi_enumS, ↓wi_zip, ↓wnx_n, ↓wnx_r, ↓blq, ↓v_kindS, ↓wb_join, ↓wb_app, ↓wb_pop, ↓wb_ext, ↓wo_lift, ↓x_name, ↓x_lb, ↓x_aug, ↓x_isi, ↓v_isI, ↓v_isB, ↓v_isS, ↓v_isT, ↓v_lenT, ↓v_int, ↓v_max2, ↓v_all, ↓v_any, ↓v_tupL, ↓v_disp0, ↓wk_ok, ↓wo_s, ↓wp_s, ↓wi_i, ↓v_slot0, ↓v_slotS, ↓ss_0, ↓ss_S, ↓sr_n, ↓sr_c, ↓sw_n, ↓sw_c, ↓v_opI, ↓v_add, ↓v_sub, ↓v_tr, ↓v_trO, ↓wf_t, ↓wf_f, ↓v_ix0, ↓v_ix1, ↓v_ix2, ↓v_ix3, ↓v_ix4, ↓v_ix5, ↓v_src, ↓v_perm, ↓wn_0, ↓wn_S, ↓wn_a0, ↓wn_aS, ↓wn_an, ↓dr_n, ↓dr_c, ↓wr_n, ↓wr_c, c_eqI, c_neI, c_ltI, c_gtI, c_leI, c_geI, d_ltI, d_gtI, d_leI, d_geI, c_isN, c_isntN, kindS, items_tup, true_and, and_true, ln_0, ln_1, ln_2, ln_3, ln_4, ln_5, ln_6, ln_7, ln_8, ln_9, ln_10, ln_11, ln_12, ln_13, ln_14, ln_15, ln_16, ln_17, ln_18, ln_19, ln_20, List.map_nil, wl_nil, a_Panel_modes hp, v_ixn, List.getElem?_map, List.getElem?_eq_getElem hm, Option.map_some, encM]); (repeat' (refine wf_i (fun hz => ?_) (fun hz => ?_) <;> (try simp -dsimp -failIfUnchanged only [↓wsq_n, ↓wsq_r, ↓wfin_n, ↓wfin_r, ↓ws_nil, ↓ws_cons, ↓ws_expr, ↓ws_set, ↓ws_ret, ↓ws_iff, ↓ws_pass, ↓ws_fb, ↓ws_for, ↓ws_while, ↓ws_wc, ↓ws_wb, ↓wt_tup, ↓wt_nil, ↓wt_cons, ↓wt_sub, ↓wt_fld, ↓we_slot, ↓we_lit, ↓we_op, ↓we_cmp, ↓we_chain, ↓we_nt, ↓we_neg, ↓we_an, ↓we_orr, ↓we_ite, ↓we_tup, ↓we_lst, ↓we_dct, ↓we_sub, ↓we_slc, ↓we_rev, ↓we_fld, ↓we_call, ↓wmk_n, ↓we_mk, ↓we_meth, ↓we_blt, ↓we_bm, ↓we_lc, ↓wes_nil, ↓wes_cons, ↓wes_star, ↓wts_nil, ↓wts_cons, ↓wo_none, ↓wo_some, ↓wi_e, ↓wi_r1, ↓wi_r2, ↓wi_enum, ↓wi_enumS, ↓wi_zip, ↓wnx_n, ↓wnx_r, ↓blq, ↓v_kindS, ↓wb_join, ↓wb_app, ↓wb_pop, ↓wb_ext, ↓wo_lift, ↓x_name, ↓x_lb, ↓x_aug, ↓x_isi, ↓v_isI, ↓v_isB, ↓v_isS, ↓v_isT, ↓v_lenT, ↓v_int, ↓v_max2, ↓v_all, ↓v_any, ↓v_tupL, ↓v_disp0, ↓wk_ok, ↓wo_s, ↓wp_s, ↓wi_i, ↓v_slot0, ↓v_slotS, ↓ss_0, ↓ss_S, ↓sr_n, ↓sr_c, ↓sw_n, ↓sw_c, ↓v_opI, ↓v_add, ↓v_sub, ↓v_tr, ↓v_trO, ↓wf_t, ↓wf_f, ↓v_ix0, ↓v_ix1, ↓v_ix2, ↓v_ix3, ↓v_ix4, ↓v_ix5, ↓v_src, ↓v_perm, ↓wn_0, ↓wn_S, ↓wn_a0, ↓wn_aS, ↓wn_an, ↓dr_n, ↓dr_c, ↓wr_n, ↓wr_c, c_eqI, c_neI, c_ltI, c_gtI, c_leI, c_geI, d_ltI, d_gtI, d_leI, d_geI, c_isN, c_isntN, kindS, items_tup, true_and, and_true, ln_0, ln_1, ln_2, ln_3, ln_4, ln_5, ln_6, ln_7, ln_8, ln_9, ln_10, ln_11, ln_12, ln_13, ln_14, ln_15, ln_16, ln_17, ln_18, ln_19, ln_20, List.map_nil, wl_nil, a_Panel_modes hp, v_ixn, List.getElem?_map, List.getElem?_eq_getElem hm, Option.map_some, encM, hz]))); (all_goals (try simp only [decide_eq_true_eq, decide_eq_false_iff_not] at *)))
    · rw [if_pos (by omega)] at q
      exact q
    · rw [if_neg (by omega), if_pos (by omega)] at q
      exact q
    · rw [if_neg (by omega), if_neg (by omega)] at q
      exact q
  | cons r rs' ih =>
    intro s4 s5 s6 e
    rw [List.map_cons, wl_cons]
    ((try simp -dsimp -failIfUnchanged only [↓wsq_n, ↓wsq_r, ↓wfin_n, ↓wfin_r, ↓ws_nil, ↓ws_cons, ↓ws_expr, ↓ws_set, ↓ws_ret, ↓ws_iff, ↓ws_pass, ↓ws_fb, ↓ws_for, ↓ws_while, ↓ws_wc, ↓ws_wb, ↓wt_tup, ↓wt_nil, ↓wt_cons, ↓wt_sub, ↓wt_fld, ↓we_slot, ↓we_lit, ↓we_op, ↓we_cmp, ↓we_chain, ↓we_nt, ↓we_neg, ↓we_an, ↓we_orr, ↓we_ite, ↓we_tup, ↓we_lst, ↓we_dct, ↓we_sub, ↓we_slc, ↓we_rev, ↓we_fld, ↓we_call, ↓wmk_n, ↓we_mk, ↓we_meth, ↓we_blt, ↓we_bm, ↓we_lc, ↓wes_nil, ↓wes_cons, ↓wes_star, ↓wts_nil, ↓wts_cons, ↓wo_none, ↓wo_some, ↓wi_e, ↓wi_r1, ↓wi_r2, ↓wi_enum, ↓wi_enumS, ↓wi_zip, ↓wnx_n, ↓wnx_r, ↓blq, ↓v_kindS, ↓wb_join, ↓wb_app, ↓wb_pop, ↓wb_ext, ↓wo_lift, ↓x_name, ↓x_lb, ↓x_aug, ↓x_isi, ↓v_isI, ↓v_isB, ↓v_isS, ↓v_isT, ↓v_lenT, ↓v_int, ↓v_max2, ↓v_all, ↓v_any, ↓v_tupL, ↓v_disp0, ↓wk_ok, ↓wo_s, ↓wp_s, ↓wi_i, ↓v_slot0, ↓v_slotS, ↓ss_0, ↓ss_S, ↓sr_n, ↓sr_c, ↓sw_n, ↓sw_c, ↓v_opI, ↓v_add, ↓v_sub, ↓v_tr, ↓v_trO, ↓wf_t, ↓wf_f, ↓v_ix0, ↓v_ix1, ↓v_ix2, ↓v_ix3, ↓v_ix4, ↓v_ix5, ↓v_src, ↓v_perm, ↓wn_0, ↓wn_S, ↓wn_a0, ↓wn_aS, ↓wn_an, ↓dr_n, ↓dr_c, ↓wr_n, ↓wr_c, c_eqI, c_neI, c_ltI, c_gtI, c_leI, c_geI, d_ltI, d_gtI, d_leI, d_geI, c_isN, c_isntN, kindS, items_tup, true_and, and_true, ln_0, ln_1, ln_2, ln_3, ln_4, ln_5, ln_6, ln_7, ln_8, ln_9, ln_10, ln_11, ln_12, ln_13, ln_14, ln_15, ln_16, ln_17, ln_18, ln_19, ln_20, encR, c_inC]); (repeat' (refine wf_i (fun hz => ?_) (fun hz => ?_) <;> (try simp -dsimp -failIfUnchanged only [↓wsq_n, ↓wsq_r, ↓wfin_n, ↓wfin_r, ↓ws_nil, ↓ws_cons, ↓ws_expr, ↓ws_set, ↓ws_ret, ↓ws_iff, ↓ws_pass, ↓ws_fb, ↓ws_for, ↓ws_while, ↓ws_wc, ↓ws_wb, ↓wt_tup, ↓wt_nil, ↓wt_cons, ↓wt_sub, ↓wt_fld, ↓we_slot, ↓we_lit, ↓we_op, ↓we_cmp, ↓we_chain, ↓we_nt, ↓we_neg, ↓we_an, ↓we_orr, ↓we_ite, ↓we_tup, ↓we_lst, ↓we_dct, ↓we_sub, ↓we_slc, ↓we_rev, ↓we_fld, ↓we_call, ↓wmk_n, ↓we_mk, ↓we_meth, ↓we_blt, ↓we_bm, ↓we_lc, ↓wes_nil, ↓wes_cons, ↓wes_star, ↓wts_nil, ↓wts_cons, ↓wo_none, ↓wo_some, ↓wi_e, ↓wi_r1, ↓wi_r2, ↓wi_enum, ↓wi_enumS, ↓wi_zip, ↓wnx_n, ↓wnx_r, ↓blq, ↓v_kindS, ↓wb_join, ↓wb_app, ↓wb_pop, ↓wb_ext, ↓wo_lift, ↓x_name, ↓x_lb, ↓x_aug, ↓x_isi, ↓v_isI, ↓v_isB, ↓v_isS, ↓v_isT, ↓v_lenT, ↓v_int, ↓v_max2, ↓v_all, ↓v_any, ↓v_tupL, ↓v_disp0, ↓wk_ok, ↓wo_s, ↓wp_s, ↓wi_i, ↓v_slot0, ↓v_slotS, ↓ss_0, ↓ss_S, ↓sr_n, ↓sr_c, ↓sw_n, ↓sw_c, ↓v_opI, ↓v_add, ↓v_sub, ↓v_tr, ↓v_trO, ↓wf_t, ↓wf_f, ↓v_ix0, ↓v_ix1, ↓v_ix2, ↓v_ix3, ↓v_ix4, ↓v_ix5, ↓v_src, ↓v_perm, ↓wn_0, ↓wn_S, ↓wn_a0, ↓wn_aS, ↓wn_an, ↓dr_n, ↓dr_c, ↓wr_n, ↓wr_c, c_eqI, c_neI, c_ltI, c_gtI, c_leI, c_geI, d_ltI, d_gtI, d_leI, d_geI, c_isN, c_isntN, kindS, items_tup, true_and, and_true, ln_0, ln_1, ln_2, ln_3, ln_4, ln_5, ln_6, ln_7, ln_8, ln_9, ln_10, ln_11, ln_12, ln_13, ln_14, ln_15, ln_16, ln_17, ln_18, ln_19, ln_20, encR, c_inC, hz]))); (all_goals (try simp only [decide_eq_true_eq, decide_eq_false_iff_not] at *)))
    · have e' : rs.find? (fun r => decide (r.here = m) && decide (r.sig ∈ y.cps.toList)) = some r := by rw [← e, List.find?_cons, show (decide (r.here = m) && decide (r.sig ∈ y.cps.toList)) = true by simp_all; omega]
      simp only [goesP, e'] at q
      exact q
    all_goals refine ih _ _ _ ?_
    all_goals rw [← e, List.find?_cons, show (decide (r.here = m) && decide (r.sig ∈ y.cps.toList)) = false by simp_all; try omega]
def isSigB : D → Bool
  | .str x => match x.cps.toList with
    | [c] => decide (65 ≤ c) && decide (c ≤ 90)
    | _ => false
  | _ => false
theorem caps : (("ABCDEFGHIJKLMNOPQRSTUVWXYZ" : Str)).cps.toList = List.range' 65 26 := by decide +kernel
/-- texts are not too long -/
def shortB : D → Bool
  | .str x => decide (x.length ≤ maxLen)
  | _ => true
theorem is_signal_ok {d : D} (l : shortB d = true) (q : Q (.bl (isSigB d)) h) : Wk X Q (fnAt P (k + 1) F_is_signal [d] h) := by
  rw [r_is_signal]
  unfold T_is_signal
  simp -dsimp -failIfUnchanged only [↓wsq_n, ↓wsq_r, ↓wfin_n, ↓wfin_r, ↓ws_nil, ↓ws_cons, ↓ws_expr, ↓ws_set, ↓ws_ret, ↓ws_iff, ↓ws_pass, ↓ws_fb, ↓ws_for, ↓ws_while, ↓ws_wc, ↓ws_wb, ↓wt_tup, ↓wt_nil, ↓wt_cons, ↓wt_sub, ↓wt_fld, ↓we_slot, ↓we_lit, ↓we_op, ↓we_cmp, ↓we_chain, ↓we_nt, ↓we_neg, ↓we_an, ↓we_orr, ↓we_ite, ↓we_tup, ↓we_lst, ↓we_dct, ↓we_sub, ↓we_slc, ↓we_rev, ↓we_fld, ↓we_call, ↓wmk_n, ↓we_mk, ↓we_meth, ↓we_blt, ↓we_bm, ↓we_lc, ↓wes_nil, ↓wes_cons, ↓wes_star, ↓wts_nil, ↓wts_cons, ↓wo_none, ↓wo_some, ↓wi_e, ↓wi_r1, ↓wi_r2, ↓wi_enum, ↓wi_enumS, ↓wi_zip, ↓wnx_n, ↓wnx_r, ↓blq, ↓v_kindS, ↓wb_join, ↓wb_app, ↓wb_pop, ↓wb_ext, ↓wo_lift, ↓x_name, ↓x_lb, ↓x_aug, ↓x_isi, ↓v_isI, ↓v_isB, ↓v_isS, ↓v_isT, ↓v_lenT, ↓v_int, ↓v_max2, ↓v_all, ↓v_any, ↓v_tupL, ↓v_disp0, ↓wk_ok, ↓wo_s, ↓wp_s, ↓wi_i, ↓v_slot0, ↓v_slotS, ↓ss_0, ↓ss_S, ↓sr_n, ↓sr_c, ↓sw_n, ↓sw_c, ↓v_opI, ↓v_add, ↓v_sub, ↓v_tr, ↓v_trO, ↓wf_t, ↓wf_f, ↓v_ix0, ↓v_ix1, ↓v_ix2, ↓v_ix3, ↓v_ix4, ↓v_ix5, ↓v_src, ↓v_perm, ↓wn_0, ↓wn_S, ↓wn_a0, ↓wn_aS, ↓wn_an, ↓dr_n, ↓dr_c, ↓wr_n, ↓wr_c, c_eqI, c_neI, c_ltI, c_gtI, c_leI, c_geI, d_ltI, d_gtI, d_leI, d_geI, c_isN, c_isntN, kindS, items_tup, true_and, and_true, ln_0, ln_1, ln_2, ln_3, ln_4, ln_5, ln_6, ln_7, ln_8, ln_9, ln_10, ln_11, ln_12, ln_13, ln_14, ln_15, ln_16, ln_17, ln_18, ln_19, ln_20]
  cases d with
  | str x =>
    simp only [shortB, decide_eq_true_eq] at l
    simp -dsimp -failIfUnchanged only [↓wsq_n, ↓wsq_r, ↓wfin_n, ↓wfin_r, ↓ws_nil, ↓ws_cons, ↓ws_expr, ↓ws_set, ↓ws_ret, ↓ws_iff, ↓ws_pass, ↓ws_fb, ↓ws_for, ↓ws_while, ↓ws_wc, ↓ws_wb, ↓wt_tup, ↓wt_nil, ↓wt_cons, ↓wt_sub, ↓wt_fld, ↓we_slot, ↓we_lit, ↓we_op, ↓we_cmp, ↓we_chain, ↓we_nt, ↓we_neg, ↓we_an, ↓we_orr, ↓we_ite, ↓we_tup, ↓we_lst, ↓we_dct, ↓we_sub, ↓we_slc, ↓we_rev, ↓we_fld, ↓we_call, ↓wmk_n, ↓we_mk, ↓we_meth, ↓we_blt, ↓we_bm, ↓we_lc, ↓wes_nil, ↓wes_cons, ↓wes_star, ↓wts_nil, ↓wts_cons, ↓wo_none, ↓wo_some, ↓wi_e, ↓wi_r1, ↓wi_r2, ↓wi_enum, ↓wi_enumS, ↓wi_zip, ↓wnx_n, ↓wnx_r, ↓blq, ↓v_kindS, ↓wb_join, ↓wb_app, ↓wb_pop, ↓wb_ext, ↓wo_lift, ↓x_name, ↓x_lb, ↓x_aug, ↓x_isi, ↓v_isI, ↓v_isB, ↓v_isS, ↓v_isT, ↓v_lenT, ↓v_int, ↓v_max2, ↓v_all, ↓v_any, ↓v_tupL, ↓v_disp0, ↓wk_ok, ↓wo_s, ↓wp_s, ↓wi_i, ↓v_slot0, ↓v_slotS, ↓ss_0, ↓ss_S, ↓sr_n, ↓sr_c, ↓sw_n, ↓sw_c, ↓v_opI, ↓v_add, ↓v_sub, ↓v_tr, ↓v_trO, ↓wf_t, ↓wf_f, ↓v_ix0, ↓v_ix1, ↓v_ix2, ↓v_ix3, ↓v_ix4, ↓v_ix5, ↓v_src, ↓v_perm, ↓wn_0, ↓wn_S, ↓wn_a0, ↓wn_aS, ↓wn_an, ↓dr_n, ↓dr_c, ↓wr_n, ↓wr_c, c_eqI, c_neI, c_ltI, c_gtI, c_leI, c_geI, d_ltI, d_gtI, d_leI, d_geI, c_isN, c_isntN, kindS, items_tup, true_and, and_true, ln_0, ln_1, ln_2, ln_3, ln_4, ln_5, ln_6, ln_7, ln_8, ln_9, ln_10, ln_11, ln_12, ln_13, ln_14, ln_15, ln_16, ln_17, ln_18, ln_19, ln_20, isS, btD, if_pos l]
    obtain ⟨⟨cs⟩⟩ := x
    simp only [Str.length] at l ⊢
    refine wf_i (fun e => ?_) (fun e => ?_)
    · have e' : cs.length = 1 := by simp at e; omega
      match cs, e' with
      | [c], _ =>
        simp -dsimp -failIfUnchanged only [↓wsq_n, ↓wsq_r, ↓wfin_n, ↓wfin_r, ↓ws_nil, ↓ws_cons, ↓ws_expr, ↓ws_set, ↓ws_ret, ↓ws_iff, ↓ws_pass, ↓ws_fb, ↓ws_for, ↓ws_while, ↓ws_wc, ↓ws_wb, ↓wt_tup, ↓wt_nil, ↓wt_cons, ↓wt_sub, ↓wt_fld, ↓we_slot, ↓we_lit, ↓we_op, ↓we_cmp, ↓we_chain, ↓we_nt, ↓we_neg, ↓we_an, ↓we_orr, ↓we_ite, ↓we_tup, ↓we_lst, ↓we_dct, ↓we_sub, ↓we_slc, ↓we_rev, ↓we_fld, ↓we_call, ↓wmk_n, ↓we_mk, ↓we_meth, ↓we_blt, ↓we_bm, ↓we_lc, ↓wes_nil, ↓wes_cons, ↓wes_star, ↓wts_nil, ↓wts_cons, ↓wo_none, ↓wo_some, ↓wi_e, ↓wi_r1, ↓wi_r2, ↓wi_enum, ↓wi_enumS, ↓wi_zip, ↓wnx_n, ↓wnx_r, ↓blq, ↓v_kindS, ↓wb_join, ↓wb_app, ↓wb_pop, ↓wb_ext, ↓wo_lift, ↓x_name, ↓x_lb, ↓x_aug, ↓x_isi, ↓v_isI, ↓v_isB, ↓v_isS, ↓v_isT, ↓v_lenT, ↓v_int, ↓v_max2, ↓v_all, ↓v_any, ↓v_tupL, ↓v_disp0, ↓wk_ok, ↓wo_s, ↓wp_s, ↓wi_i, ↓v_slot0, ↓v_slotS, ↓ss_0, ↓ss_S, ↓sr_n, ↓sr_c, ↓sw_n, ↓sw_c, ↓v_opI, ↓v_add, ↓v_sub, ↓v_tr, ↓v_trO, ↓wf_t, ↓wf_f, ↓v_ix0, ↓v_ix1, ↓v_ix2, ↓v_ix3, ↓v_ix4, ↓v_ix5, ↓v_src, ↓v_perm, ↓wn_0, ↓wn_S, ↓wn_a0, ↓wn_aS, ↓wn_an, ↓dr_n, ↓dr_c, ↓wr_n, ↓wr_c, c_eqI, c_neI, c_ltI, c_gtI, c_leI, c_geI, d_ltI, d_gtI, d_leI, d_geI, c_isN, c_isntN, kindS, items_tup, true_and, and_true, ln_0, ln_1, ln_2, ln_3, ln_4, ln_5, ln_6, ln_7, ln_8, ln_9, ln_10, ln_11, ln_12, ln_13, ln_14, ln_15, ln_16, ln_17, ln_18, ln_19, ln_20, c_inC, caps]
        have : decide (c ∈ List.range' 65 26) = (decide (65 ≤ c) && decide (c ≤ 90)) := by
          rw [Bool.eq_iff_iff]; simp [List.mem_range'_1]; omega
        rw [this]
        exact q
    · have e' : cs.length ≠ 1 := by simp at e; omega
      have : isSigB (.str ⟨⟨cs⟩⟩) = false := by
        simp only [isSigB]
        match cs, e' with
        | [], _ => rfl
        | [c], e' => exact absurd rfl e'
        | _ :: _ :: _, _ => rfl
      rw [this] at q
      simp -dsimp -failIfUnchanged only [↓wsq_n, ↓wsq_r, ↓wfin_n, ↓wfin_r, ↓ws_nil, ↓ws_cons, ↓ws_expr, ↓ws_set, ↓ws_ret, ↓ws_iff, ↓ws_pass, ↓ws_fb, ↓ws_for, ↓ws_while, ↓ws_wc, ↓ws_wb, ↓wt_tup, ↓wt_nil, ↓wt_cons, ↓wt_sub, ↓wt_fld, ↓we_slot, ↓we_lit, ↓we_op, ↓we_cmp, ↓we_chain, ↓we_nt, ↓we_neg, ↓we_an, ↓we_orr, ↓we_ite, ↓we_tup, ↓we_lst, ↓we_dct, ↓we_sub, ↓we_slc, ↓we_rev, ↓we_fld, ↓we_call, ↓wmk_n, ↓we_mk, ↓we_meth, ↓we_blt, ↓we_bm, ↓we_lc, ↓wes_nil, ↓wes_cons, ↓wes_star, ↓wts_nil, ↓wts_cons, ↓wo_none, ↓wo_some, ↓wi_e, ↓wi_r1, ↓wi_r2, ↓wi_enum, ↓wi_enumS, ↓wi_zip, ↓wnx_n, ↓wnx_r, ↓blq, ↓v_kindS, ↓wb_join, ↓wb_app, ↓wb_pop, ↓wb_ext, ↓wo_lift, ↓x_name, ↓x_lb, ↓x_aug, ↓x_isi, ↓v_isI, ↓v_isB, ↓v_isS, ↓v_isT, ↓v_lenT, ↓v_int, ↓v_max2, ↓v_all, ↓v_any, ↓v_tupL, ↓v_disp0, ↓wk_ok, ↓wo_s, ↓wp_s, ↓wi_i, ↓v_slot0, ↓v_slotS, ↓ss_0, ↓ss_S, ↓sr_n, ↓sr_c, ↓sw_n, ↓sw_c, ↓v_opI, ↓v_add, ↓v_sub, ↓v_tr, ↓v_trO, ↓wf_t, ↓wf_f, ↓v_ix0, ↓v_ix1, ↓v_ix2, ↓v_ix3, ↓v_ix4, ↓v_ix5, ↓v_src, ↓v_perm, ↓wn_0, ↓wn_S, ↓wn_a0, ↓wn_aS, ↓wn_an, ↓dr_n, ↓dr_c, ↓wr_n, ↓wr_c, c_eqI, c_neI, c_ltI, c_gtI, c_leI, c_geI, d_ltI, d_gtI, d_leI, d_geI, c_isN, c_isntN, kindS, items_tup, true_and, and_true, ln_0, ln_1, ln_2, ln_3, ln_4, ln_5, ln_6, ln_7, ln_8, ln_9, ln_10, ln_11, ln_12, ln_13, ln_14, ln_15, ln_16, ln_17, ln_18, ln_19, ln_20]
      exact e ▸ q
  | _ => simp -dsimp -failIfUnchanged only [↓wsq_n, ↓wsq_r, ↓wfin_n, ↓wfin_r, ↓ws_nil, ↓ws_cons, ↓ws_expr, ↓ws_set, ↓ws_ret, ↓ws_iff, ↓ws_pass, ↓ws_fb, ↓ws_for, ↓ws_while, ↓ws_wc, ↓ws_wb, ↓wt_tup, ↓wt_nil, ↓wt_cons, ↓wt_sub, ↓wt_fld, ↓we_slot, ↓we_lit, ↓we_op, ↓we_cmp, ↓we_chain, ↓we_nt, ↓we_neg, ↓we_an, ↓we_orr, ↓we_ite, ↓we_tup, ↓we_lst, ↓we_dct, ↓we_sub, ↓we_slc, ↓we_rev, ↓we_fld, ↓we_call, ↓wmk_n, ↓we_mk, ↓we_meth, ↓we_blt, ↓we_bm, ↓we_lc, ↓wes_nil, ↓wes_cons, ↓wes_star, ↓wts_nil, ↓wts_cons, ↓wo_none, ↓wo_some, ↓wi_e, ↓wi_r1, ↓wi_r2, ↓wi_enum, ↓wi_enumS, ↓wi_zip, ↓wnx_n, ↓wnx_r, ↓blq, ↓v_kindS, ↓wb_join, ↓wb_app, ↓wb_pop, ↓wb_ext, ↓wo_lift, ↓x_name, ↓x_lb, ↓x_aug, ↓x_isi, ↓v_isI, ↓v_isB, ↓v_isS, ↓v_isT, ↓v_lenT, ↓v_int, ↓v_max2, ↓v_all, ↓v_any, ↓v_tupL, ↓v_disp0, ↓wk_ok, ↓wo_s, ↓wp_s, ↓wi_i, ↓v_slot0, ↓v_slotS, ↓ss_0, ↓ss_S, ↓sr_n, ↓sr_c, ↓sw_n, ↓sw_c, ↓v_opI, ↓v_add, ↓v_sub, ↓v_tr, ↓v_trO, ↓wf_t, ↓wf_f, ↓v_ix0, ↓v_ix1, ↓v_ix2, ↓v_ix3, ↓v_ix4, ↓v_ix5, ↓v_src, ↓v_perm, ↓wn_0, ↓wn_S, ↓wn_a0, ↓wn_aS, ↓wn_an, ↓dr_n, ↓dr_c, ↓wr_n, ↓wr_c, c_eqI, c_neI, c_ltI, c_gtI, c_leI, c_geI, d_ltI, d_gtI, d_leI, d_geI, c_isN, c_isntN, kindS, items_tup, true_and, and_true, ln_0, ln_1, ln_2, ln_3, ln_4, ln_5, ln_6, ln_7, ln_8, ln_9, ln_10, ln_11, ln_12, ln_13, ln_14, ln_15, ln_16, ln_17, ln_18, ln_19, ln_20, isS]; exact q
def isRuleB (n : Nat) : D → Bool
  | .tup [a, b, c] => isIxB n a && (isSigB b && isIxB n c)
  | _ => false
def shortsB : D → Bool
  | .tup xs => xs.all shortB
  | _ => true
theorem is_rule_ok {n : Nat} {d : D} (l : shortsB d = true) (q : Q (.bl (isRuleB n d)) h) : Wk X Q (fnAt P (k + 3) F_is_rule [.int n, d] h) := by
  rw [r_is_rule]
  unfold T_is_rule
  simp -dsimp -failIfUnchanged only [↓wsq_n, ↓wsq_r, ↓wfin_n, ↓wfin_r, ↓ws_nil, ↓ws_cons, ↓ws_expr, ↓ws_set, ↓ws_ret, ↓ws_iff, ↓ws_pass, ↓ws_fb, ↓ws_for, ↓ws_while, ↓ws_wc, ↓ws_wb, ↓wt_tup, ↓wt_nil, ↓wt_cons, ↓wt_sub, ↓wt_fld, ↓we_slot, ↓we_lit, ↓we_op, ↓we_cmp, ↓we_chain, ↓we_nt, ↓we_neg, ↓we_an, ↓we_orr, ↓we_ite, ↓we_tup, ↓we_lst, ↓we_dct, ↓we_sub, ↓we_slc, ↓we_rev, ↓we_fld, ↓we_call, ↓wmk_n, ↓we_mk, ↓we_meth, ↓we_blt, ↓we_bm, ↓we_lc, ↓wes_nil, ↓wes_cons, ↓wes_star, ↓wts_nil, ↓wts_cons, ↓wo_none, ↓wo_some, ↓wi_e, ↓wi_r1, ↓wi_r2, ↓wi_enum, ↓wi_enumS, ↓wi_zip, ↓wnx_n, ↓wnx_r, ↓blq, ↓v_kindS, ↓wb_join, ↓wb_app, ↓wb_pop, ↓wb_ext, ↓wo_lift, ↓x_name, ↓x_lb, ↓x_aug, ↓x_isi, ↓v_isI, ↓v_isB, ↓v_isS, ↓v_isT, ↓v_lenT, ↓v_int, ↓v_max2, ↓v_all, ↓v_any, ↓v_tupL, ↓v_disp0, ↓wk_ok, ↓wo_s, ↓wp_s, ↓wi_i, ↓v_slot0, ↓v_slotS, ↓ss_0, ↓ss_S, ↓sr_n, ↓sr_c, ↓sw_n, ↓sw_c, ↓v_opI, ↓v_add, ↓v_sub, ↓v_tr, ↓v_trO, ↓wf_t, ↓wf_f, ↓v_ix0, ↓v_ix1, ↓v_ix2, ↓v_ix3, ↓v_ix4, ↓v_ix5, ↓v_src, ↓v_perm, ↓wn_0, ↓wn_S, ↓wn_a0, ↓wn_aS, ↓wn_an, ↓dr_n, ↓dr_c, ↓wr_n, ↓wr_c, c_eqI, c_neI, c_ltI, c_gtI, c_leI, c_geI, d_ltI, d_gtI, d_leI, d_geI, c_isN, c_isntN, kindS, items_tup, true_and, and_true, ln_0, ln_1, ln_2, ln_3, ln_4, ln_5, ln_6, ln_7, ln_8, ln_9, ln_10, ln_11, ln_12, ln_13, ln_14, ln_15, ln_16, ln_17, ln_18, ln_19, ln_20]
  cases d with
  | tup xs =>
    simp -dsimp -failIfUnchanged only [↓wsq_n, ↓wsq_r, ↓wfin_n, ↓wfin_r, ↓ws_nil, ↓ws_cons, ↓ws_expr, ↓ws_set, ↓ws_ret, ↓ws_iff, ↓ws_pass, ↓ws_fb, ↓ws_for, ↓ws_while, ↓ws_wc, ↓ws_wb, ↓wt_tup, ↓wt_nil, ↓wt_cons, ↓wt_sub, ↓wt_fld, ↓we_slot, ↓we_lit, ↓we_op, ↓we_cmp, ↓we_chain, ↓we_nt, ↓we_neg, ↓we_an, ↓we_orr, ↓we_ite, ↓we_tup, ↓we_lst, ↓we_dct, ↓we_sub, ↓we_slc, ↓we_rev, ↓we_fld, ↓we_call, ↓wmk_n, ↓we_mk, ↓we_meth, ↓we_blt, ↓we_bm, ↓we_lc, ↓wes_nil, ↓wes_cons, ↓wes_star, ↓wts_nil, ↓wts_cons, ↓wo_none, ↓wo_some, ↓wi_e, ↓wi_r1, ↓wi_r2, ↓wi_enum, ↓wi_enumS, ↓wi_zip, ↓wnx_n, ↓wnx_r, ↓blq, ↓v_kindS, ↓wb_join, ↓wb_app, ↓wb_pop, ↓wb_ext, ↓wo_lift, ↓x_name, ↓x_lb, ↓x_aug, ↓x_isi, ↓v_isI, ↓v_isB, ↓v_isS, ↓v_isT, ↓v_lenT, ↓v_int, ↓v_max2, ↓v_all, ↓v_any, ↓v_tupL, ↓v_disp0, ↓wk_ok, ↓wo_s, ↓wp_s, ↓wi_i, ↓v_slot0, ↓v_slotS, ↓ss_0, ↓ss_S, ↓sr_n, ↓sr_c, ↓sw_n, ↓sw_c, ↓v_opI, ↓v_add, ↓v_sub, ↓v_tr, ↓v_trO, ↓wf_t, ↓wf_f, ↓v_ix0, ↓v_ix1, ↓v_ix2, ↓v_ix3, ↓v_ix4, ↓v_ix5, ↓v_src, ↓v_perm, ↓wn_0, ↓wn_S, ↓wn_a0, ↓wn_aS, ↓wn_an, ↓dr_n, ↓dr_c, ↓wr_n, ↓wr_c, c_eqI, c_neI, c_ltI, c_gtI, c_leI, c_geI, d_ltI, d_gtI, d_leI, d_geI, c_isN, c_isntN, kindS, items_tup, true_and, and_true, ln_0, ln_1, ln_2, ln_3, ln_4, ln_5, ln_6, ln_7, ln_8, ln_9, ln_10, ln_11, ln_12, ln_13, ln_14, ln_15, ln_16, ln_17, ln_18, ln_19, ln_20, isT, Bool.not_true, Bool.not_false]
    match xs with
    | [a, b, c] =>
      simp only [shortsB, List.all_cons, Bool.and_eq_true] at l
      simp only [List.length_cons, List.length_nil]
      simp -dsimp -failIfUnchanged only [↓wsq_n, ↓wsq_r, ↓wfin_n, ↓wfin_r, ↓ws_nil, ↓ws_cons, ↓ws_expr, ↓ws_set, ↓ws_ret, ↓ws_iff, ↓ws_pass, ↓ws_fb, ↓ws_for, ↓ws_while, ↓ws_wc, ↓ws_wb, ↓wt_tup, ↓wt_nil, ↓wt_cons, ↓wt_sub, ↓wt_fld, ↓we_slot, ↓we_lit, ↓we_op, ↓we_cmp, ↓we_chain, ↓we_nt, ↓we_neg, ↓we_an, ↓we_orr, ↓we_ite, ↓we_tup, ↓we_lst, ↓we_dct, ↓we_sub, ↓we_slc, ↓we_rev, ↓we_fld, ↓we_call, ↓wmk_n, ↓we_mk, ↓we_meth, ↓we_blt, ↓we_bm, ↓we_lc, ↓wes_nil, ↓wes_cons, ↓wes_star, ↓wts_nil, ↓wts_cons, ↓wo_none, ↓wo_some, ↓wi_e, ↓wi_r1, ↓wi_r2, ↓wi_enum, ↓wi_enumS, ↓wi_zip, ↓wnx_n, ↓wnx_r, ↓blq, ↓v_kindS, ↓wb_join, ↓wb_app, ↓wb_pop, ↓wb_ext, ↓wo_lift, ↓x_name, ↓x_lb, ↓x_aug, ↓x_isi, ↓v_isI, ↓v_isB, ↓v_isS, ↓v_isT, ↓v_lenT, ↓v_int, ↓v_max2, ↓v_all, ↓v_any, ↓v_tupL, ↓v_disp0, ↓wk_ok, ↓wo_s, ↓wp_s, ↓wi_i, ↓v_slot0, ↓v_slotS, ↓ss_0, ↓ss_S, ↓sr_n, ↓sr_c, ↓sw_n, ↓sw_c, ↓v_opI, ↓v_add, ↓v_sub, ↓v_tr, ↓v_trO, ↓wf_t, ↓wf_f, ↓v_ix0, ↓v_ix1, ↓v_ix2, ↓v_ix3, ↓v_ix4, ↓v_ix5, ↓v_src, ↓v_perm, ↓wn_0, ↓wn_S, ↓wn_a0, ↓wn_aS, ↓wn_an, ↓dr_n, ↓dr_c, ↓wr_n, ↓wr_c, c_eqI, c_neI, c_ltI, c_gtI, c_leI, c_geI, d_ltI, d_gtI, d_leI, d_geI, c_isN, c_isntN, kindS, items_tup, true_and, and_true, ln_0, ln_1, ln_2, ln_3, ln_4, ln_5, ln_6, ln_7, ln_8, ln_9, ln_10, ln_11, ln_12, ln_13, ln_14, ln_15, ln_16, ln_17, ln_18, ln_19, ln_20, show ((0 + 1 + 1 + 1 : Nat) : Int) = 3 from rfl, decide_true, Bool.not_true]
      refine is_index_ok ?_
      simp -dsimp -failIfUnchanged only [↓wsq_n, ↓wsq_r, ↓wfin_n, ↓wfin_r, ↓ws_nil, ↓ws_cons, ↓ws_expr, ↓ws_set, ↓ws_ret, ↓ws_iff, ↓ws_pass, ↓ws_fb, ↓ws_for, ↓ws_while, ↓ws_wc, ↓ws_wb, ↓wt_tup, ↓wt_nil, ↓wt_cons, ↓wt_sub, ↓wt_fld, ↓we_slot, ↓we_lit, ↓we_op, ↓we_cmp, ↓we_chain, ↓we_nt, ↓we_neg, ↓we_an, ↓we_orr, ↓we_ite, ↓we_tup, ↓we_lst, ↓we_dct, ↓we_sub, ↓we_slc, ↓we_rev, ↓we_fld, ↓we_call, ↓wmk_n, ↓we_mk, ↓we_meth, ↓we_blt, ↓we_bm, ↓we_lc, ↓wes_nil, ↓wes_cons, ↓wes_star, ↓wts_nil, ↓wts_cons, ↓wo_none, ↓wo_some, ↓wi_e, ↓wi_r1, ↓wi_r2, ↓wi_enum, ↓wi_enumS, ↓wi_zip, ↓wnx_n, ↓wnx_r, ↓blq, ↓v_kindS, ↓wb_join, ↓wb_app, ↓wb_pop, ↓wb_ext, ↓wo_lift, ↓x_name, ↓x_lb, ↓x_aug, ↓x_isi, ↓v_isI, ↓v_isB, ↓v_isS, ↓v_isT, ↓v_lenT, ↓v_int, ↓v_max2, ↓v_all, ↓v_any, ↓v_tupL, ↓v_disp0, ↓wk_ok, ↓wo_s, ↓wp_s, ↓wi_i, ↓v_slot0, ↓v_slotS, ↓ss_0, ↓ss_S, ↓sr_n, ↓sr_c, ↓sw_n, ↓sw_c, ↓v_opI, ↓v_add, ↓v_sub, ↓v_tr, ↓v_trO, ↓wf_t, ↓wf_f, ↓v_ix0, ↓v_ix1, ↓v_ix2, ↓v_ix3, ↓v_ix4, ↓v_ix5, ↓v_src, ↓v_perm, ↓wn_0, ↓wn_S, ↓wn_a0, ↓wn_aS, ↓wn_an, ↓dr_n, ↓dr_c, ↓wr_n, ↓wr_c, c_eqI, c_neI, c_ltI, c_gtI, c_leI, c_geI, d_ltI, d_gtI, d_leI, d_geI, c_isN, c_isntN, kindS, items_tup, true_and, and_true, ln_0, ln_1, ln_2, ln_3, ln_4, ln_5, ln_6, ln_7, ln_8, ln_9, ln_10, ln_11, ln_12, ln_13, ln_14, ln_15, ln_16, ln_17, ln_18, ln_19, ln_20]
      refine wf_i (fun e1 => ?_) (fun e1 => ?_) <;> simp -dsimp -failIfUnchanged only [↓wsq_n, ↓wsq_r, ↓wfin_n, ↓wfin_r, ↓ws_nil, ↓ws_cons, ↓ws_expr, ↓ws_set, ↓ws_ret, ↓ws_iff, ↓ws_pass, ↓ws_fb, ↓ws_for, ↓ws_while, ↓ws_wc, ↓ws_wb, ↓wt_tup, ↓wt_nil, ↓wt_cons, ↓wt_sub, ↓wt_fld, ↓we_slot, ↓we_lit, ↓we_op, ↓we_cmp, ↓we_chain, ↓we_nt, ↓we_neg, ↓we_an, ↓we_orr, ↓we_ite, ↓we_tup, ↓we_lst, ↓we_dct, ↓we_sub, ↓we_slc, ↓we_rev, ↓we_fld, ↓we_call, ↓wmk_n, ↓we_mk, ↓we_meth, ↓we_blt, ↓we_bm, ↓we_lc, ↓wes_nil, ↓wes_cons, ↓wes_star, ↓wts_nil, ↓wts_cons, ↓wo_none, ↓wo_some, ↓wi_e, ↓wi_r1, ↓wi_r2, ↓wi_enum, ↓wi_enumS, ↓wi_zip, ↓wnx_n, ↓wnx_r, ↓blq, ↓v_kindS, ↓wb_join, ↓wb_app, ↓wb_pop, ↓wb_ext, ↓wo_lift, ↓x_name, ↓x_lb, ↓x_aug, ↓x_isi, ↓v_isI, ↓v_isB, ↓v_isS, ↓v_isT, ↓v_lenT, ↓v_int, ↓v_max2, ↓v_all, ↓v_any, ↓v_tupL, ↓v_disp0, ↓wk_ok, ↓wo_s, ↓wp_s, ↓wi_i, ↓v_slot0, ↓v_slotS, ↓ss_0, ↓ss_S, ↓sr_n, ↓sr_c, ↓sw_n, ↓sw_c, ↓v_opI, ↓v_add, ↓v_sub, ↓v_tr, ↓v_trO, ↓wf_t, ↓wf_f, ↓v_ix0, ↓v_ix1, ↓v_ix2, ↓v_ix3, ↓v_ix4, ↓v_ix5, ↓v_src, ↓v_perm, ↓wn_0, ↓wn_S, ↓wn_a0, ↓wn_aS, ↓wn_an, ↓dr_n, ↓dr_c, ↓wr_n, ↓wr_c, c_eqI, c_neI, c_ltI, c_gtI, c_leI, c_geI, d_ltI, d_gtI, d_leI, d_geI, c_isN, c_isntN, kindS, items_tup, true_and, and_true, ln_0, ln_1, ln_2, ln_3, ln_4, ln_5, ln_6, ln_7, ln_8, ln_9, ln_10, ln_11, ln_12, ln_13, ln_14, ln_15, ln_16, ln_17, ln_18, ln_19, ln_20]
      · refine is_signal_ok l.2.1 ?_
        simp -dsimp -failIfUnchanged only [↓wsq_n, ↓wsq_r, ↓wfin_n, ↓wfin_r, ↓ws_nil, ↓ws_cons, ↓ws_expr, ↓ws_set, ↓ws_ret, ↓ws_iff, ↓ws_pass, ↓ws_fb, ↓ws_for, ↓ws_while, ↓ws_wc, ↓ws_wb, ↓wt_tup, ↓wt_nil, ↓wt_cons, ↓wt_sub, ↓wt_fld, ↓we_slot, ↓we_lit, ↓we_op, ↓we_cmp, ↓we_chain, ↓we_nt, ↓we_neg, ↓we_an, ↓we_orr, ↓we_ite, ↓we_tup, ↓we_lst, ↓we_dct, ↓we_sub, ↓we_slc, ↓we_rev, ↓we_fld, ↓we_call, ↓wmk_n, ↓we_mk, ↓we_meth, ↓we_blt, ↓we_bm, ↓we_lc, ↓wes_nil, ↓wes_cons, ↓wes_star, ↓wts_nil, ↓wts_cons, ↓wo_none, ↓wo_some, ↓wi_e, ↓wi_r1, ↓wi_r2, ↓wi_enum, ↓wi_enumS, ↓wi_zip, ↓wnx_n, ↓wnx_r, ↓blq, ↓v_kindS, ↓wb_join, ↓wb_app, ↓wb_pop, ↓wb_ext, ↓wo_lift, ↓x_name, ↓x_lb, ↓x_aug, ↓x_isi, ↓v_isI, ↓v_isB, ↓v_isS, ↓v_isT, ↓v_lenT, ↓v_int, ↓v_max2, ↓v_all, ↓v_any, ↓v_tupL, ↓v_disp0, ↓wk_ok, ↓wo_s, ↓wp_s, ↓wi_i, ↓v_slot0, ↓v_slotS, ↓ss_0, ↓ss_S, ↓sr_n, ↓sr_c, ↓sw_n, ↓sw_c, ↓v_opI, ↓v_add, ↓v_sub, ↓v_tr, ↓v_trO, ↓wf_t, ↓wf_f, ↓v_ix0, ↓v_ix1, ↓v_ix2, ↓v_ix3, ↓v_ix4, ↓v_ix5, ↓v_src, ↓v_perm, ↓wn_0, ↓wn_S, ↓wn_a0, ↓wn_aS, ↓wn_an, ↓dr_n, ↓dr_c, ↓wr_n, ↓wr_c, c_eqI, c_neI, c_ltI, c_gtI, c_leI, c_geI, d_ltI, d_gtI, d_leI, d_geI, c_isN, c_isntN, kindS, items_tup, true_and, and_true, ln_0, ln_1, ln_2, ln_3, ln_4, ln_5, ln_6, ln_7, ln_8, ln_9, ln_10, ln_11, ln_12, ln_13, ln_14, ln_15, ln_16, ln_17, ln_18, ln_19, ln_20]
        refine wf_i (fun e2 => ?_) (fun e2 => ?_) <;> simp -dsimp -failIfUnchanged only [↓wsq_n, ↓wsq_r, ↓wfin_n, ↓wfin_r, ↓ws_nil, ↓ws_cons, ↓ws_expr, ↓ws_set, ↓ws_ret, ↓ws_iff, ↓ws_pass, ↓ws_fb, ↓ws_for, ↓ws_while, ↓ws_wc, ↓ws_wb, ↓wt_tup, ↓wt_nil, ↓wt_cons, ↓wt_sub, ↓wt_fld, ↓we_slot, ↓we_lit, ↓we_op, ↓we_cmp, ↓we_chain, ↓we_nt, ↓we_neg, ↓we_an, ↓we_orr, ↓we_ite, ↓we_tup, ↓we_lst, ↓we_dct, ↓we_sub, ↓we_slc, ↓we_rev, ↓we_fld, ↓we_call, ↓wmk_n, ↓we_mk, ↓we_meth, ↓we_blt, ↓we_bm, ↓we_lc, ↓wes_nil, ↓wes_cons, ↓wes_star, ↓wts_nil, ↓wts_cons, ↓wo_none, ↓wo_some, ↓wi_e, ↓wi_r1, ↓wi_r2, ↓wi_enum, ↓wi_enumS, ↓wi_zip, ↓wnx_n, ↓wnx_r, ↓blq, ↓v_kindS, ↓wb_join, ↓wb_app, ↓wb_pop, ↓wb_ext, ↓wo_lift, ↓x_name, ↓x_lb, ↓x_aug, ↓x_isi, ↓v_isI, ↓v_isB, ↓v_isS, ↓v_isT, ↓v_lenT, ↓v_int, ↓v_max2, ↓v_all, ↓v_any, ↓v_tupL, ↓v_disp0, ↓wk_ok, ↓wo_s, ↓wp_s, ↓wi_i, ↓v_slot0, ↓v_slotS, ↓ss_0, ↓ss_S, ↓sr_n, ↓sr_c, ↓sw_n, ↓sw_c, ↓v_opI, ↓v_add, ↓v_sub, ↓v_tr, ↓v_trO, ↓wf_t, ↓wf_f, ↓v_ix0, ↓v_ix1, ↓v_ix2, ↓v_ix3, ↓v_ix4, ↓v_ix5, ↓v_src, ↓v_perm, ↓wn_0, ↓wn_S, ↓wn_a0, ↓wn_aS, ↓wn_an, ↓dr_n, ↓dr_c, ↓wr_n, ↓wr_c, c_eqI, c_neI, c_ltI, c_gtI, c_leI, c_geI, d_ltI, d_gtI, d_leI, d_geI, c_isN, c_isntN, kindS, items_tup, true_and, and_true, ln_0, ln_1, ln_2, ln_3, ln_4, ln_5, ln_6, ln_7, ln_8, ln_9, ln_10, ln_11, ln_12, ln_13, ln_14, ln_15, ln_16, ln_17, ln_18, ln_19, ln_20]
        · refine is_index_ok ?_
          simp -dsimp -failIfUnchanged only [↓wsq_n, ↓wsq_r, ↓wfin_n, ↓wfin_r, ↓ws_nil, ↓ws_cons, ↓ws_expr, ↓ws_set, ↓ws_ret, ↓ws_iff, ↓ws_pass, ↓ws_fb, ↓ws_for, ↓ws_while, ↓ws_wc, ↓ws_wb, ↓wt_tup, ↓wt_nil, ↓wt_cons, ↓wt_sub, ↓wt_fld, ↓we_slot, ↓we_lit, ↓we_op, ↓we_cmp, ↓we_chain, ↓we_nt, ↓we_neg, ↓we_an, ↓we_orr, ↓we_ite, ↓we_tup, ↓we_lst, ↓we_dct, ↓we_sub, ↓we_slc, ↓we_rev, ↓we_fld, ↓we_call, ↓wmk_n, ↓we_mk, ↓we_meth, ↓we_blt, ↓we_bm, ↓we_lc, ↓wes_nil, ↓wes_cons, ↓wes_star, ↓wts_nil, ↓wts_cons, ↓wo_none, ↓wo_some, ↓wi_e, ↓wi_r1, ↓wi_r2, ↓wi_enum, ↓wi_enumS, ↓wi_zip, ↓wnx_n, ↓wnx_r, ↓blq, ↓v_kindS, ↓wb_join, ↓wb_app, ↓wb_pop, ↓wb_ext, ↓wo_lift, ↓x_name, ↓x_lb, ↓x_aug, ↓x_isi, ↓v_isI, ↓v_isB, ↓v_isS, ↓v_isT, ↓v_lenT, ↓v_int, ↓v_max2, ↓v_all, ↓v_any, ↓v_tupL, ↓v_disp0, ↓wk_ok, ↓wo_s, ↓wp_s, ↓wi_i, ↓v_slot0, ↓v_slotS, ↓ss_0, ↓ss_S, ↓sr_n, ↓sr_c, ↓sw_n, ↓sw_c, ↓v_opI, ↓v_add, ↓v_sub, ↓v_tr, ↓v_trO, ↓wf_t, ↓wf_f, ↓v_ix0, ↓v_ix1, ↓v_ix2, ↓v_ix3, ↓v_ix4, ↓v_ix5, ↓v_src, ↓v_perm, ↓wn_0, ↓wn_S, ↓wn_a0, ↓wn_aS, ↓wn_an, ↓dr_n, ↓dr_c, ↓wr_n, ↓wr_c, c_eqI, c_neI, c_ltI, c_gtI, c_leI, c_geI, d_ltI, d_gtI, d_leI, d_geI, c_isN, c_isntN, kindS, items_tup, true_and, and_true, ln_0, ln_1, ln_2, ln_3, ln_4, ln_5, ln_6, ln_7, ln_8, ln_9, ln_10, ln_11, ln_12, ln_13, ln_14, ln_15, ln_16, ln_17, ln_18, ln_19, ln_20]
          simpa [isRuleB, e1, e2] using q
        · simpa [isRuleB, e1, e2] using q
      · simpa [isRuleB, e1] using q
    | [] =>
      have : ((([] : List D).length : Nat) : Int) ≠ 3 := by simp
      simp -dsimp -failIfUnchanged only [↓wsq_n, ↓wsq_r, ↓wfin_n, ↓wfin_r, ↓ws_nil, ↓ws_cons, ↓ws_expr, ↓ws_set, ↓ws_ret, ↓ws_iff, ↓ws_pass, ↓ws_fb, ↓ws_for, ↓ws_while, ↓ws_wc, ↓ws_wb, ↓wt_tup, ↓wt_nil, ↓wt_cons, ↓wt_sub, ↓wt_fld, ↓we_slot, ↓we_lit, ↓we_op, ↓we_cmp, ↓we_chain, ↓we_nt, ↓we_neg, ↓we_an, ↓we_orr, ↓we_ite, ↓we_tup, ↓we_lst, ↓we_dct, ↓we_sub, ↓we_slc, ↓we_rev, ↓we_fld, ↓we_call, ↓wmk_n, ↓we_mk, ↓we_meth, ↓we_blt, ↓we_bm, ↓we_lc, ↓wes_nil, ↓wes_cons, ↓wes_star, ↓wts_nil, ↓wts_cons, ↓wo_none, ↓wo_some, ↓wi_e, ↓wi_r1, ↓wi_r2, ↓wi_enum, ↓wi_enumS, ↓wi_zip, ↓wnx_n, ↓wnx_r, ↓blq, ↓v_kindS, ↓wb_join, ↓wb_app, ↓wb_pop, ↓wb_ext, ↓wo_lift, ↓x_name, ↓x_lb, ↓x_aug, ↓x_isi, ↓v_isI, ↓v_isB, ↓v_isS, ↓v_isT, ↓v_lenT, ↓v_int, ↓v_max2, ↓v_all, ↓v_any, ↓v_tupL, ↓v_disp0, ↓wk_ok, ↓wo_s, ↓wp_s, ↓wi_i, ↓v_slot0, ↓v_slotS, ↓ss_0, ↓ss_S, ↓sr_n, ↓sr_c, ↓sw_n, ↓sw_c, ↓v_opI, ↓v_add, ↓v_sub, ↓v_tr, ↓v_trO, ↓wf_t, ↓wf_f, ↓v_ix0, ↓v_ix1, ↓v_ix2, ↓v_ix3, ↓v_ix4, ↓v_ix5, ↓v_src, ↓v_perm, ↓wn_0, ↓wn_S, ↓wn_a0, ↓wn_aS, ↓wn_an, ↓dr_n, ↓dr_c, ↓wr_n, ↓wr_c, c_eqI, c_neI, c_ltI, c_gtI, c_leI, c_geI, d_ltI, d_gtI, d_leI, d_geI, c_isN, c_isntN, kindS, items_tup, true_and, and_true, ln_0, ln_1, ln_2, ln_3, ln_4, ln_5, ln_6, ln_7, ln_8, ln_9, ln_10, ln_11, ln_12, ln_13, ln_14, ln_15, ln_16, ln_17, ln_18, ln_19, ln_20, this, decide_false, Bool.not_false]; exact q
    | [a] =>
      have : ((([a] : List D).length : Nat) : Int) ≠ 3 := by simp
      simp -dsimp -failIfUnchanged only [↓wsq_n, ↓wsq_r, ↓wfin_n, ↓wfin_r, ↓ws_nil, ↓ws_cons, ↓ws_expr, ↓ws_set, ↓ws_ret, ↓ws_iff, ↓ws_pass, ↓ws_fb, ↓ws_for, ↓ws_while, ↓ws_wc, ↓ws_wb, ↓wt_tup, ↓wt_nil, ↓wt_cons, ↓wt_sub, ↓wt_fld, ↓we_slot, ↓we_lit, ↓we_op, ↓we_cmp, ↓we_chain, ↓we_nt, ↓we_neg, ↓we_an, ↓we_orr, ↓we_ite, ↓we_tup, ↓we_lst, ↓we_dct, ↓we_sub, ↓we_slc, ↓we_rev, ↓we_fld, ↓we_call, ↓wmk_n, ↓we_mk, ↓we_meth, ↓we_blt, ↓we_bm, ↓we_lc, ↓wes_nil, ↓wes_cons, ↓wes_star, ↓wts_nil, ↓wts_cons, ↓wo_none, ↓wo_some, ↓wi_e, ↓wi_r1, ↓wi_r2, ↓wi_enum, ↓wi_enumS, ↓wi_zip, ↓wnx_n, ↓wnx_r, ↓blq, ↓v_kindS, ↓wb_join, ↓wb_app, ↓wb_pop, ↓wb_ext, ↓wo_lift, ↓x_name, ↓x_lb, ↓x_aug, ↓x_isi, ↓v_isI, ↓v_isB, ↓v_isS, ↓v_isT, ↓v_lenT, ↓v_int, ↓v_max2, ↓v_all, ↓v_any, ↓v_tupL, ↓v_disp0, ↓wk_ok, ↓wo_s, ↓wp_s, ↓wi_i, ↓v_slot0, ↓v_slotS, ↓ss_0, ↓ss_S, ↓sr_n, ↓sr_c, ↓sw_n, ↓sw_c, ↓v_opI, ↓v_add, ↓v_sub, ↓v_tr, ↓v_trO, ↓wf_t, ↓wf_f, ↓v_ix0, ↓v_ix1, ↓v_ix2, ↓v_ix3, ↓v_ix4, ↓v_ix5, ↓v_src, ↓v_perm, ↓wn_0, ↓wn_S, ↓wn_a0, ↓wn_aS, ↓wn_an, ↓dr_n, ↓dr_c, ↓wr_n, ↓wr_c, c_eqI, c_neI, c_ltI, c_gtI, c_leI, c_geI, d_ltI, d_gtI, d_leI, d_geI, c_isN, c_isntN, kindS, items_tup, true_and, and_true, ln_0, ln_1, ln_2, ln_3, ln_4, ln_5, ln_6, ln_7, ln_8, ln_9, ln_10, ln_11, ln_12, ln_13, ln_14, ln_15, ln_16, ln_17, ln_18, ln_19, ln_20, this, decide_false, Bool.not_false]; exact q
    | [a, b] =>
      have : ((([a, b] : List D).length : Nat) : Int) ≠ 3 := by simp
      simp -dsimp -failIfUnchanged only [↓wsq_n, ↓wsq_r, ↓wfin_n, ↓wfin_r, ↓ws_nil, ↓ws_cons, ↓ws_expr, ↓ws_set, ↓ws_ret, ↓ws_iff, ↓ws_pass, ↓ws_fb, ↓ws_for, ↓ws_while, ↓ws_wc, ↓ws_wb, ↓wt_tup, ↓wt_nil, ↓wt_cons, ↓wt_sub, ↓wt_fld, ↓we_slot, ↓we_lit, ↓we_op, ↓we_cmp, ↓we_chain, ↓we_nt, ↓we_neg, ↓we_an, ↓we_orr, ↓we_ite, ↓we_tup, ↓we_lst, ↓we_dct, ↓we_sub, ↓we_slc, ↓we_rev, ↓we_fld, ↓we_call, ↓wmk_n, ↓we_mk, ↓we_meth, ↓we_blt, ↓we_bm, ↓we_lc, ↓wes_nil, ↓wes_cons, ↓wes_star, ↓wts_nil, ↓wts_cons, ↓wo_none, ↓wo_some, ↓wi_e, ↓wi_r1, ↓wi_r2, ↓wi_enum, ↓wi_enumS, ↓wi_zip, ↓wnx_n, ↓wnx_r, ↓blq, ↓v_kindS, ↓wb_join, ↓wb_app, ↓wb_pop, ↓wb_ext, ↓wo_lift, ↓x_name, ↓x_lb, ↓x_aug, ↓x_isi, ↓v_isI, ↓v_isB, ↓v_isS, ↓v_isT, ↓v_lenT, ↓v_int, ↓v_max2, ↓v_all, ↓v_any, ↓v_tupL, ↓v_disp0, ↓wk_ok, ↓wo_s, ↓wp_s, ↓wi_i, ↓v_slot0, ↓v_slotS, ↓ss_0, ↓ss_S, ↓sr_n, ↓sr_c, ↓sw_n, ↓sw_c, ↓v_opI, ↓v_add, ↓v_sub, ↓v_tr, ↓v_trO, ↓wf_t, ↓wf_f, ↓v_ix0, ↓v_ix1, ↓v_ix2, ↓v_ix3, ↓v_ix4, ↓v_ix5, ↓v_src, ↓v_perm, ↓wn_0, ↓wn_S, ↓wn_a0, ↓wn_aS, ↓wn_an, ↓dr_n, ↓dr_c, ↓wr_n, ↓wr_c, c_eqI, c_neI, c_ltI, c_gtI, c_leI, c_geI, d_ltI, d_gtI, d_leI, d_geI, c_isN, c_isntN, kindS, items_tup, true_and, and_true, ln_0, ln_1, ln_2, ln_3, ln_4, ln_5, ln_6, ln_7, ln_8, ln_9, ln_10, ln_11, ln_12, ln_13, ln_14, ln_15, ln_16, ln_17, ln_18, ln_19, ln_20, this, decide_false, Bool.not_false]; exact q
    | a :: b :: c :: d :: r =>
      have : ((a :: b :: c :: d :: r).length : Int) ≠ 3 := by simp only [List.length_cons]; omega
      simp -dsimp -failIfUnchanged only [↓wsq_n, ↓wsq_r, ↓wfin_n, ↓wfin_r, ↓ws_nil, ↓ws_cons, ↓ws_expr, ↓ws_set, ↓ws_ret, ↓ws_iff, ↓ws_pass, ↓ws_fb, ↓ws_for, ↓ws_while, ↓ws_wc, ↓ws_wb, ↓wt_tup, ↓wt_nil, ↓wt_cons, ↓wt_sub, ↓wt_fld, ↓we_slot, ↓we_lit, ↓we_op, ↓we_cmp, ↓we_chain, ↓we_nt, ↓we_neg, ↓we_an, ↓we_orr, ↓we_ite, ↓we_tup, ↓we_lst, ↓we_dct, ↓we_sub, ↓we_slc, ↓we_rev, ↓we_fld, ↓we_call, ↓wmk_n, ↓we_mk, ↓we_meth, ↓we_blt, ↓we_bm, ↓we_lc, ↓wes_nil, ↓wes_cons, ↓wes_star, ↓wts_nil, ↓wts_cons, ↓wo_none, ↓wo_some, ↓wi_e, ↓wi_r1, ↓wi_r2, ↓wi_enum, ↓wi_enumS, ↓wi_zip, ↓wnx_n, ↓wnx_r, ↓blq, ↓v_kindS, ↓wb_join, ↓wb_app, ↓wb_pop, ↓wb_ext, ↓wo_lift, ↓x_name, ↓x_lb, ↓x_aug, ↓x_isi, ↓v_isI, ↓v_isB, ↓v_isS, ↓v_isT, ↓v_lenT, ↓v_int, ↓v_max2, ↓v_all, ↓v_any, ↓v_tupL, ↓v_disp0, ↓wk_ok, ↓wo_s, ↓wp_s, ↓wi_i, ↓v_slot0, ↓v_slotS, ↓ss_0, ↓ss_S, ↓sr_n, ↓sr_c, ↓sw_n, ↓sw_c, ↓v_opI, ↓v_add, ↓v_sub, ↓v_tr, ↓v_trO, ↓wf_t, ↓wf_f, ↓v_ix0, ↓v_ix1, ↓v_ix2, ↓v_ix3, ↓v_ix4, ↓v_ix5, ↓v_src, ↓v_perm, ↓wn_0, ↓wn_S, ↓wn_a0, ↓wn_aS, ↓wn_an, ↓dr_n, ↓dr_c, ↓wr_n, ↓wr_c, c_eqI, c_neI, c_ltI, c_gtI, c_leI, c_geI, d_ltI, d_gtI, d_leI, d_geI, c_isN, c_isntN, kindS, items_tup, true_and, and_true, ln_0, ln_1, ln_2, ln_3, ln_4, ln_5, ln_6, ln_7, ln_8, ln_9, ln_10, ln_11, ln_12, ln_13, ln_14, ln_15, ln_16, ln_17, ln_18, ln_19, ln_20, this, decide_false, Bool.not_false]
      exact q
  | _ => simp -dsimp -failIfUnchanged only [↓wsq_n, ↓wsq_r, ↓wfin_n, ↓wfin_r, ↓ws_nil, ↓ws_cons, ↓ws_expr, ↓ws_set, ↓ws_ret, ↓ws_iff, ↓ws_pass, ↓ws_fb, ↓ws_for, ↓ws_while, ↓ws_wc, ↓ws_wb, ↓wt_tup, ↓wt_nil, ↓wt_cons, ↓wt_sub, ↓wt_fld, ↓we_slot, ↓we_lit, ↓we_op, ↓we_cmp, ↓we_chain, ↓we_nt, ↓we_neg, ↓we_an, ↓we_orr, ↓we_ite, ↓we_tup, ↓we_lst, ↓we_dct, ↓we_sub, ↓we_slc, ↓we_rev, ↓we_fld, ↓we_call, ↓wmk_n, ↓we_mk, ↓we_meth, ↓we_blt, ↓we_bm, ↓we_lc, ↓wes_nil, ↓wes_cons, ↓wes_star, ↓wts_nil, ↓wts_cons, ↓wo_none, ↓wo_some, ↓wi_e, ↓wi_r1, ↓wi_r2, ↓wi_enum, ↓wi_enumS, ↓wi_zip, ↓wnx_n, ↓wnx_r, ↓blq, ↓v_kindS, ↓wb_join, ↓wb_app, ↓wb_pop, ↓wb_ext, ↓wo_lift, ↓x_name, ↓x_lb, ↓x_aug, ↓x_isi, ↓v_isI, ↓v_isB, ↓v_isS, ↓v_isT, ↓v_lenT, ↓v_int, ↓v_max2, ↓v_all, ↓v_any, ↓v_tupL, ↓v_disp0, ↓wk_ok, ↓wo_s, ↓wp_s, ↓wi_i, ↓v_slot0, ↓v_slotS, ↓ss_0, ↓ss_S, ↓sr_n, ↓sr_c, ↓sw_n, ↓sw_c, ↓v_opI, ↓v_add, ↓v_sub, ↓v_tr, ↓v_trO, ↓wf_t, ↓wf_f, ↓v_ix0, ↓v_ix1, ↓v_ix2, ↓v_ix3, ↓v_ix4, ↓v_ix5, ↓v_src, ↓v_perm, ↓wn_0, ↓wn_S, ↓wn_a0, ↓wn_aS, ↓wn_an, ↓dr_n, ↓dr_c, ↓wr_n, ↓wr_c, c_eqI, c_neI, c_ltI, c_gtI, c_leI, c_geI, d_ltI, d_gtI, d_leI, d_geI, c_isN, c_isntN, kindS, items_tup, true_and, and_true, ln_0, ln_1, ln_2, ln_3, ln_4, ln_5, ln_6, ln_7, ln_8, ln_9, ln_10, ln_11, ln_12, ln_13, ln_14, ln_15, ln_16, ln_17, ln_18, ln_19, ln_20, isT, Bool.not_true, Bool.not_false]; exact q
def isModeB (n : Nat) : D → Bool
  | .tup [a, b, c, d] => isB a && (isB b && (isNumB 0 99 c && isIxB n d))
  | _ => false
theorem is_mode_ok {n : Nat} {d : D} (q : Q (.bl (isModeB n d)) h) : Wk X Q (fnAt P (k + 3) F_is_mode [.int n, d] h) := by
  rw [r_is_mode]
  unfold T_is_mode
  simp -dsimp -failIfUnchanged only [↓wsq_n, ↓wsq_r, ↓wfin_n, ↓wfin_r, ↓ws_nil, ↓ws_cons, ↓ws_expr, ↓ws_set, ↓ws_ret, ↓ws_iff, ↓ws_pass, ↓ws_fb, ↓ws_for, ↓ws_while, ↓ws_wc, ↓ws_wb, ↓wt_tup, ↓wt_nil, ↓wt_cons, ↓wt_sub, ↓wt_fld, ↓we_slot, ↓we_lit, ↓we_op, ↓we_cmp, ↓we_chain, ↓we_nt, ↓we_neg, ↓we_an, ↓we_orr, ↓we_ite, ↓we_tup, ↓we_lst, ↓we_dct, ↓we_sub, ↓we_slc, ↓we_rev, ↓we_fld, ↓we_call, ↓wmk_n, ↓we_mk, ↓we_meth, ↓we_blt, ↓we_bm, ↓we_lc, ↓wes_nil, ↓wes_cons, ↓wes_star, ↓wts_nil, ↓wts_cons, ↓wo_none, ↓wo_some, ↓wi_e, ↓wi_r1, ↓wi_r2, ↓wi_enum, ↓wi_enumS, ↓wi_zip, ↓wnx_n, ↓wnx_r, ↓blq, ↓v_kindS, ↓wb_join, ↓wb_app, ↓wb_pop, ↓wb_ext, ↓wo_lift, ↓x_name, ↓x_lb, ↓x_aug, ↓x_isi, ↓v_isI, ↓v_isB, ↓v_isS, ↓v_isT, ↓v_lenT, ↓v_int, ↓v_max2, ↓v_all, ↓v_any, ↓v_tupL, ↓v_disp0, ↓wk_ok, ↓wo_s, ↓wp_s, ↓wi_i, ↓v_slot0, ↓v_slotS, ↓ss_0, ↓ss_S, ↓sr_n, ↓sr_c, ↓sw_n, ↓sw_c, ↓v_opI, ↓v_add, ↓v_sub, ↓v_tr, ↓v_trO, ↓wf_t, ↓wf_f, ↓v_ix0, ↓v_ix1, ↓v_ix2, ↓v_ix3, ↓v_ix4, ↓v_ix5, ↓v_src, ↓v_perm, ↓wn_0, ↓wn_S, ↓wn_a0, ↓wn_aS, ↓wn_an, ↓dr_n, ↓dr_c, ↓wr_n, ↓wr_c, c_eqI, c_neI, c_ltI, c_gtI, c_leI, c_geI, d_ltI, d_gtI, d_leI, d_geI, c_isN, c_isntN, kindS, items_tup, true_and, and_true, ln_0, ln_1, ln_2, ln_3, ln_4, ln_5, ln_6, ln_7, ln_8, ln_9, ln_10, ln_11, ln_12, ln_13, ln_14, ln_15, ln_16, ln_17, ln_18, ln_19, ln_20]
  cases d with
  | tup xs =>
    simp -dsimp -failIfUnchanged only [↓wsq_n, ↓wsq_r, ↓wfin_n, ↓wfin_r, ↓ws_nil, ↓ws_cons, ↓ws_expr, ↓ws_set, ↓ws_ret, ↓ws_iff, ↓ws_pass, ↓ws_fb, ↓ws_for, ↓ws_while, ↓ws_wc, ↓ws_wb, ↓wt_tup, ↓wt_nil, ↓wt_cons, ↓wt_sub, ↓wt_fld, ↓we_slot, ↓we_lit, ↓we_op, ↓we_cmp, ↓we_chain, ↓we_nt, ↓we_neg, ↓we_an, ↓we_orr, ↓we_ite, ↓we_tup, ↓we_lst, ↓we_dct, ↓we_sub, ↓we_slc, ↓we_rev, ↓we_fld, ↓we_call, ↓wmk_n, ↓we_mk, ↓we_meth, ↓we_blt, ↓we_bm, ↓we_lc, ↓wes_nil, ↓wes_cons, ↓wes_star, ↓wts_nil, ↓wts_cons, ↓wo_none, ↓wo_some, ↓wi_e, ↓wi_r1, ↓wi_r2, ↓wi_enum, ↓wi_enumS, ↓wi_zip, ↓wnx_n, ↓wnx_r, ↓blq, ↓v_kindS, ↓wb_join, ↓wb_app, ↓wb_pop, ↓wb_ext, ↓wo_lift, ↓x_name, ↓x_lb, ↓x_aug, ↓x_isi, ↓v_isI, ↓v_isB, ↓v_isS, ↓v_isT, ↓v_lenT, ↓v_int, ↓v_max2, ↓v_all, ↓v_any, ↓v_tupL, ↓v_disp0, ↓wk_ok, ↓wo_s, ↓wp_s, ↓wi_i, ↓v_slot0, ↓v_slotS, ↓ss_0, ↓ss_S, ↓sr_n, ↓sr_c, ↓sw_n, ↓sw_c, ↓v_opI, ↓v_add, ↓v_sub, ↓v_tr, ↓v_trO, ↓wf_t, ↓wf_f, ↓v_ix0, ↓v_ix1, ↓v_ix2, ↓v_ix3, ↓v_ix4, ↓v_ix5, ↓v_src, ↓v_perm, ↓wn_0, ↓wn_S, ↓wn_a0, ↓wn_aS, ↓wn_an, ↓dr_n, ↓dr_c, ↓wr_n, ↓wr_c, c_eqI, c_neI, c_ltI, c_gtI, c_leI, c_geI, d_ltI, d_gtI, d_leI, d_geI, c_isN, c_isntN, kindS, items_tup, true_and, and_true, ln_0, ln_1, ln_2, ln_3, ln_4, ln_5, ln_6, ln_7, ln_8, ln_9, ln_10, ln_11, ln_12, ln_13, ln_14, ln_15, ln_16, ln_17, ln_18, ln_19, ln_20, isT, Bool.not_true, Bool.not_false]
    match xs with
    | [a, b, c, d] =>
      simp only [List.length_cons, List.length_nil]
      simp -dsimp -failIfUnchanged only [↓wsq_n, ↓wsq_r, ↓wfin_n, ↓wfin_r, ↓ws_nil, ↓ws_cons, ↓ws_expr, ↓ws_set, ↓ws_ret, ↓ws_iff, ↓ws_pass, ↓ws_fb, ↓ws_for, ↓ws_while, ↓ws_wc, ↓ws_wb, ↓wt_tup, ↓wt_nil, ↓wt_cons, ↓wt_sub, ↓wt_fld, ↓we_slot, ↓we_lit, ↓we_op, ↓we_cmp, ↓we_chain, ↓we_nt, ↓we_neg, ↓we_an, ↓we_orr, ↓we_ite, ↓we_tup, ↓we_lst, ↓we_dct, ↓we_sub, ↓we_slc, ↓we_rev, ↓we_fld, ↓we_call, ↓wmk_n, ↓we_mk, ↓we_meth, ↓we_blt, ↓we_bm, ↓we_lc, ↓wes_nil, ↓wes_cons, ↓wes_star, ↓wts_nil, ↓wts_cons, ↓wo_none, ↓wo_some, ↓wi_e, ↓wi_r1, ↓wi_r2, ↓wi_enum, ↓wi_enumS, ↓wi_zip, ↓wnx_n, ↓wnx_r, ↓blq, ↓v_kindS, ↓wb_join, ↓wb_app, ↓wb_pop, ↓wb_ext, ↓wo_lift, ↓x_name, ↓x_lb, ↓x_aug, ↓x_isi, ↓v_isI, ↓v_isB, ↓v_isS, ↓v_isT, ↓v_lenT, ↓v_int, ↓v_max2, ↓v_all, ↓v_any, ↓v_tupL, ↓v_disp0, ↓wk_ok, ↓wo_s, ↓wp_s, ↓wi_i, ↓v_slot0, ↓v_slotS, ↓ss_0, ↓ss_S, ↓sr_n, ↓sr_c, ↓sw_n, ↓sw_c, ↓v_opI, ↓v_add, ↓v_sub, ↓v_tr, ↓v_trO, ↓wf_t, ↓wf_f, ↓v_ix0, ↓v_ix1, ↓v_ix2, ↓v_ix3, ↓v_ix4, ↓v_ix5, ↓v_src, ↓v_perm, ↓wn_0, ↓wn_S, ↓wn_a0, ↓wn_aS, ↓wn_an, ↓dr_n, ↓dr_c, ↓wr_n, ↓wr_c, c_eqI, c_neI, c_ltI, c_gtI, c_leI, c_geI, d_ltI, d_gtI, d_leI, d_geI, c_isN, c_isntN, kindS, items_tup, true_and, and_true, ln_0, ln_1, ln_2, ln_3, ln_4, ln_5, ln_6, ln_7, ln_8, ln_9, ln_10, ln_11, ln_12, ln_13, ln_14, ln_15, ln_16, ln_17, ln_18, ln_19, ln_20, show ((0 + 1 + 1 + 1 + 1 : Nat) : Int) = 4 from rfl, decide_true, Bool.not_true]
      cases ha : isB a
      · simp -dsimp -failIfUnchanged only [↓wsq_n, ↓wsq_r, ↓wfin_n, ↓wfin_r, ↓ws_nil, ↓ws_cons, ↓ws_expr, ↓ws_set, ↓ws_ret, ↓ws_iff, ↓ws_pass, ↓ws_fb, ↓ws_for, ↓ws_while, ↓ws_wc, ↓ws_wb, ↓wt_tup, ↓wt_nil, ↓wt_cons, ↓wt_sub, ↓wt_fld, ↓we_slot, ↓we_lit, ↓we_op, ↓we_cmp, ↓we_chain, ↓we_nt, ↓we_neg, ↓we_an, ↓we_orr, ↓we_ite, ↓we_tup, ↓we_lst, ↓we_dct, ↓we_sub, ↓we_slc, ↓we_rev, ↓we_fld, ↓we_call, ↓wmk_n, ↓we_mk, ↓we_meth, ↓we_blt, ↓we_bm, ↓we_lc, ↓wes_nil, ↓wes_cons, ↓wes_star, ↓wts_nil, ↓wts_cons, ↓wo_none, ↓wo_some, ↓wi_e, ↓wi_r1, ↓wi_r2, ↓wi_enum, ↓wi_enumS, ↓wi_zip, ↓wnx_n, ↓wnx_r, ↓blq, ↓v_kindS, ↓wb_join, ↓wb_app, ↓wb_pop, ↓wb_ext, ↓wo_lift, ↓x_name, ↓x_lb, ↓x_aug, ↓x_isi, ↓v_isI, ↓v_isB, ↓v_isS, ↓v_isT, ↓v_lenT, ↓v_int, ↓v_max2, ↓v_all, ↓v_any, ↓v_tupL, ↓v_disp0, ↓wk_ok, ↓wo_s, ↓wp_s, ↓wi_i, ↓v_slot0, ↓v_slotS, ↓ss_0, ↓ss_S, ↓sr_n, ↓sr_c, ↓sw_n, ↓sw_c, ↓v_opI, ↓v_add, ↓v_sub, ↓v_tr, ↓v_trO, ↓wf_t, ↓wf_f, ↓v_ix0, ↓v_ix1, ↓v_ix2, ↓v_ix3, ↓v_ix4, ↓v_ix5, ↓v_src, ↓v_perm, ↓wn_0, ↓wn_S, ↓wn_a0, ↓wn_aS, ↓wn_an, ↓dr_n, ↓dr_c, ↓wr_n, ↓wr_c, c_eqI, c_neI, c_ltI, c_gtI, c_leI, c_geI, d_ltI, d_gtI, d_leI, d_geI, c_isN, c_isntN, kindS, items_tup, true_and, and_true, ln_0, ln_1, ln_2, ln_3, ln_4, ln_5, ln_6, ln_7, ln_8, ln_9, ln_10, ln_11, ln_12, ln_13, ln_14, ln_15, ln_16, ln_17, ln_18, ln_19, ln_20, Bool.not_false]; simpa [isModeB, ha] using q
      · simp -dsimp -failIfUnchanged only [↓wsq_n, ↓wsq_r, ↓wfin_n, ↓wfin_r, ↓ws_nil, ↓ws_cons, ↓ws_expr, ↓ws_set, ↓ws_ret, ↓ws_iff, ↓ws_pass, ↓ws_fb, ↓ws_for, ↓ws_while, ↓ws_wc, ↓ws_wb, ↓wt_tup, ↓wt_nil, ↓wt_cons, ↓wt_sub, ↓wt_fld, ↓we_slot, ↓we_lit, ↓we_op, ↓we_cmp, ↓we_chain, ↓we_nt, ↓we_neg, ↓we_an, ↓we_orr, ↓we_ite, ↓we_tup, ↓we_lst, ↓we_dct, ↓we_sub, ↓we_slc, ↓we_rev, ↓we_fld, ↓we_call, ↓wmk_n, ↓we_mk, ↓we_meth, ↓we_blt, ↓we_bm, ↓we_lc, ↓wes_nil, ↓wes_cons, ↓wes_star, ↓wts_nil, ↓wts_cons, ↓wo_none, ↓wo_some, ↓wi_e, ↓wi_r1, ↓wi_r2, ↓wi_enum, ↓wi_enumS, ↓wi_zip, ↓wnx_n, ↓wnx_r, ↓blq, ↓v_kindS, ↓wb_join, ↓wb_app, ↓wb_pop, ↓wb_ext, ↓wo_lift, ↓x_name, ↓x_lb, ↓x_aug, ↓x_isi, ↓v_isI, ↓v_isB, ↓v_isS, ↓v_isT, ↓v_lenT, ↓v_int, ↓v_max2, ↓v_all, ↓v_any, ↓v_tupL, ↓v_disp0, ↓wk_ok, ↓wo_s, ↓wp_s, ↓wi_i, ↓v_slot0, ↓v_slotS, ↓ss_0, ↓ss_S, ↓sr_n, ↓sr_c, ↓sw_n, ↓sw_c, ↓v_opI, ↓v_add, ↓v_sub, ↓v_tr, ↓v_trO, ↓wf_t, ↓wf_f, ↓v_ix0, ↓v_ix1, ↓v_ix2, ↓v_ix3, ↓v_ix4, ↓v_ix5, ↓v_src, ↓v_perm, ↓wn_0, ↓wn_S, ↓wn_a0, ↓wn_aS, ↓wn_an, ↓dr_n, ↓dr_c, ↓wr_n, ↓wr_c, c_eqI, c_neI, c_ltI, c_gtI, c_leI, c_geI, d_ltI, d_gtI, d_leI, d_geI, c_isN, c_isntN, kindS, items_tup, true_and, and_true, ln_0, ln_1, ln_2, ln_3, ln_4, ln_5, ln_6, ln_7, ln_8, ln_9, ln_10, ln_11, ln_12, ln_13, ln_14, ln_15, ln_16, ln_17, ln_18, ln_19, ln_20, Bool.not_true]
        cases hb : isB b
        · simp -dsimp -failIfUnchanged only [↓wsq_n, ↓wsq_r, ↓wfin_n, ↓wfin_r, ↓ws_nil, ↓ws_cons, ↓ws_expr, ↓ws_set, ↓ws_ret, ↓ws_iff, ↓ws_pass, ↓ws_fb, ↓ws_for, ↓ws_while, ↓ws_wc, ↓ws_wb, ↓wt_tup, ↓wt_nil, ↓wt_cons, ↓wt_sub, ↓wt_fld, ↓we_slot, ↓we_lit, ↓we_op, ↓we_cmp, ↓we_chain, ↓we_nt, ↓we_neg, ↓we_an, ↓we_orr, ↓we_ite, ↓we_tup, ↓we_lst, ↓we_dct, ↓we_sub, ↓we_slc, ↓we_rev, ↓we_fld, ↓we_call, ↓wmk_n, ↓we_mk, ↓we_meth, ↓we_blt, ↓we_bm, ↓we_lc, ↓wes_nil, ↓wes_cons, ↓wes_star, ↓wts_nil, ↓wts_cons, ↓wo_none, ↓wo_some, ↓wi_e, ↓wi_r1, ↓wi_r2, ↓wi_enum, ↓wi_enumS, ↓wi_zip, ↓wnx_n, ↓wnx_r, ↓blq, ↓v_kindS, ↓wb_join, ↓wb_app, ↓wb_pop, ↓wb_ext, ↓wo_lift, ↓x_name, ↓x_lb, ↓x_aug, ↓x_isi, ↓v_isI, ↓v_isB, ↓v_isS, ↓v_isT, ↓v_lenT, ↓v_int, ↓v_max2, ↓v_all, ↓v_any, ↓v_tupL, ↓v_disp0, ↓wk_ok, ↓wo_s, ↓wp_s, ↓wi_i, ↓v_slot0, ↓v_slotS, ↓ss_0, ↓ss_S, ↓sr_n, ↓sr_c, ↓sw_n, ↓sw_c, ↓v_opI, ↓v_add, ↓v_sub, ↓v_tr, ↓v_trO, ↓wf_t, ↓wf_f, ↓v_ix0, ↓v_ix1, ↓v_ix2, ↓v_ix3, ↓v_ix4, ↓v_ix5, ↓v_src, ↓v_perm, ↓wn_0, ↓wn_S, ↓wn_a0, ↓wn_aS, ↓wn_an, ↓dr_n, ↓dr_c, ↓wr_n, ↓wr_c, c_eqI, c_neI, c_ltI, c_gtI, c_leI, c_geI, d_ltI, d_gtI, d_leI, d_geI, c_isN, c_isntN, kindS, items_tup, true_and, and_true, ln_0, ln_1, ln_2, ln_3, ln_4, ln_5, ln_6, ln_7, ln_8, ln_9, ln_10, ln_11, ln_12, ln_13, ln_14, ln_15, ln_16, ln_17, ln_18, ln_19, ln_20, Bool.not_false]; simpa [isModeB, ha, hb] using q
        · simp -dsimp -failIfUnchanged only [↓wsq_n, ↓wsq_r, ↓wfin_n, ↓wfin_r, ↓ws_nil, ↓ws_cons, ↓ws_expr, ↓ws_set, ↓ws_ret, ↓ws_iff, ↓ws_pass, ↓ws_fb, ↓ws_for, ↓ws_while, ↓ws_wc, ↓ws_wb, ↓wt_tup, ↓wt_nil, ↓wt_cons, ↓wt_sub, ↓wt_fld, ↓we_slot, ↓we_lit, ↓we_op, ↓we_cmp, ↓we_chain, ↓we_nt, ↓we_neg, ↓we_an, ↓we_orr, ↓we_ite, ↓we_tup, ↓we_lst, ↓we_dct, ↓we_sub, ↓we_slc, ↓we_rev, ↓we_fld, ↓we_call, ↓wmk_n, ↓we_mk, ↓we_meth, ↓we_blt, ↓we_bm, ↓we_lc, ↓wes_nil, ↓wes_cons, ↓wes_star, ↓wts_nil, ↓wts_cons, ↓wo_none, ↓wo_some, ↓wi_e, ↓wi_r1, ↓wi_r2, ↓wi_enum, ↓wi_enumS, ↓wi_zip, ↓wnx_n, ↓wnx_r, ↓blq, ↓v_kindS, ↓wb_join, ↓wb_app, ↓wb_pop, ↓wb_ext, ↓wo_lift, ↓x_name, ↓x_lb, ↓x_aug, ↓x_isi, ↓v_isI, ↓v_isB, ↓v_isS, ↓v_isT, ↓v_lenT, ↓v_int, ↓v_max2, ↓v_all, ↓v_any, ↓v_tupL, ↓v_disp0, ↓wk_ok, ↓wo_s, ↓wp_s, ↓wi_i, ↓v_slot0, ↓v_slotS, ↓ss_0, ↓ss_S, ↓sr_n, ↓sr_c, ↓sw_n, ↓sw_c, ↓v_opI, ↓v_add, ↓v_sub, ↓v_tr, ↓v_trO, ↓wf_t, ↓wf_f, ↓v_ix0, ↓v_ix1, ↓v_ix2, ↓v_ix3, ↓v_ix4, ↓v_ix5, ↓v_src, ↓v_perm, ↓wn_0, ↓wn_S, ↓wn_a0, ↓wn_aS, ↓wn_an, ↓dr_n, ↓dr_c, ↓wr_n, ↓wr_c, c_eqI, c_neI, c_ltI, c_gtI, c_leI, c_geI, d_ltI, d_gtI, d_leI, d_geI, c_isN, c_isntN, kindS, items_tup, true_and, and_true, ln_0, ln_1, ln_2, ln_3, ln_4, ln_5, ln_6, ln_7, ln_8, ln_9, ln_10, ln_11, ln_12, ln_13, ln_14, ln_15, ln_16, ln_17, ln_18, ln_19, ln_20, Bool.not_true]
          refine is_number_ok ?_
          simp -dsimp -failIfUnchanged only [↓wsq_n, ↓wsq_r, ↓wfin_n, ↓wfin_r, ↓ws_nil, ↓ws_cons, ↓ws_expr, ↓ws_set, ↓ws_ret, ↓ws_iff, ↓ws_pass, ↓ws_fb, ↓ws_for, ↓ws_while, ↓ws_wc, ↓ws_wb, ↓wt_tup, ↓wt_nil, ↓wt_cons, ↓wt_sub, ↓wt_fld, ↓we_slot, ↓we_lit, ↓we_op, ↓we_cmp, ↓we_chain, ↓we_nt, ↓we_neg, ↓we_an, ↓we_orr, ↓we_ite, ↓we_tup, ↓we_lst, ↓we_dct, ↓we_sub, ↓we_slc, ↓we_rev, ↓we_fld, ↓we_call, ↓wmk_n, ↓we_mk, ↓we_meth, ↓we_blt, ↓we_bm, ↓we_lc, ↓wes_nil, ↓wes_cons, ↓wes_star, ↓wts_nil, ↓wts_cons, ↓wo_none, ↓wo_some, ↓wi_e, ↓wi_r1, ↓wi_r2, ↓wi_enum, ↓wi_enumS, ↓wi_zip, ↓wnx_n, ↓wnx_r, ↓blq, ↓v_kindS, ↓wb_join, ↓wb_app, ↓wb_pop, ↓wb_ext, ↓wo_lift, ↓x_name, ↓x_lb, ↓x_aug, ↓x_isi, ↓v_isI, ↓v_isB, ↓v_isS, ↓v_isT, ↓v_lenT, ↓v_int, ↓v_max2, ↓v_all, ↓v_any, ↓v_tupL, ↓v_disp0, ↓wk_ok, ↓wo_s, ↓wp_s, ↓wi_i, ↓v_slot0, ↓v_slotS, ↓ss_0, ↓ss_S, ↓sr_n, ↓sr_c, ↓sw_n, ↓sw_c, ↓v_opI, ↓v_add, ↓v_sub, ↓v_tr, ↓v_trO, ↓wf_t, ↓wf_f, ↓v_ix0, ↓v_ix1, ↓v_ix2, ↓v_ix3, ↓v_ix4, ↓v_ix5, ↓v_src, ↓v_perm, ↓wn_0, ↓wn_S, ↓wn_a0, ↓wn_aS, ↓wn_an, ↓dr_n, ↓dr_c, ↓wr_n, ↓wr_c, c_eqI, c_neI, c_ltI, c_gtI, c_leI, c_geI, d_ltI, d_gtI, d_leI, d_geI, c_isN, c_isntN, kindS, items_tup, true_and, and_true, ln_0, ln_1, ln_2, ln_3, ln_4, ln_5, ln_6, ln_7, ln_8, ln_9, ln_10, ln_11, ln_12, ln_13, ln_14, ln_15, ln_16, ln_17, ln_18, ln_19, ln_20]
          refine wf_i (fun e1 => ?_) (fun e1 => ?_) <;> simp -dsimp -failIfUnchanged only [↓wsq_n, ↓wsq_r, ↓wfin_n, ↓wfin_r, ↓ws_nil, ↓ws_cons, ↓ws_expr, ↓ws_set, ↓ws_ret, ↓ws_iff, ↓ws_pass, ↓ws_fb, ↓ws_for, ↓ws_while, ↓ws_wc, ↓ws_wb, ↓wt_tup, ↓wt_nil, ↓wt_cons, ↓wt_sub, ↓wt_fld, ↓we_slot, ↓we_lit, ↓we_op, ↓we_cmp, ↓we_chain, ↓we_nt, ↓we_neg, ↓we_an, ↓we_orr, ↓we_ite, ↓we_tup, ↓we_lst, ↓we_dct, ↓we_sub, ↓we_slc, ↓we_rev, ↓we_fld, ↓we_call, ↓wmk_n, ↓we_mk, ↓we_meth, ↓we_blt, ↓we_bm, ↓we_lc, ↓wes_nil, ↓wes_cons, ↓wes_star, ↓wts_nil, ↓wts_cons, ↓wo_none, ↓wo_some, ↓wi_e, ↓wi_r1, ↓wi_r2, ↓wi_enum, ↓wi_enumS, ↓wi_zip, ↓wnx_n, ↓wnx_r, ↓blq, ↓v_kindS, ↓wb_join, ↓wb_app, ↓wb_pop, ↓wb_ext, ↓wo_lift, ↓x_name, ↓x_lb, ↓x_aug, ↓x_isi, ↓v_isI, ↓v_isB, ↓v_isS, ↓v_isT, ↓v_lenT, ↓v_int, ↓v_max2, ↓v_all, ↓v_any, ↓v_tupL, ↓v_disp0, ↓wk_ok, ↓wo_s, ↓wp_s, ↓wi_i, ↓v_slot0, ↓v_slotS, ↓ss_0, ↓ss_S, ↓sr_n, ↓sr_c, ↓sw_n, ↓sw_c, ↓v_opI, ↓v_add, ↓v_sub, ↓v_tr, ↓v_trO, ↓wf_t, ↓wf_f, ↓v_ix0, ↓v_ix1, ↓v_ix2, ↓v_ix3, ↓v_ix4, ↓v_ix5, ↓v_src, ↓v_perm, ↓wn_0, ↓wn_S, ↓wn_a0, ↓wn_aS, ↓wn_an, ↓dr_n, ↓dr_c, ↓wr_n, ↓wr_c, c_eqI, c_neI, c_ltI, c_gtI, c_leI, c_geI, d_ltI, d_gtI, d_leI, d_geI, c_isN, c_isntN, kindS, items_tup, true_and, and_true, ln_0, ln_1, ln_2, ln_3, ln_4, ln_5, ln_6, ln_7, ln_8, ln_9, ln_10, ln_11, ln_12, ln_13, ln_14, ln_15, ln_16, ln_17, ln_18, ln_19, ln_20]
          · refine is_index_ok ?_
            simp -dsimp -failIfUnchanged only [↓wsq_n, ↓wsq_r, ↓wfin_n, ↓wfin_r, ↓ws_nil, ↓ws_cons, ↓ws_expr, ↓ws_set, ↓ws_ret, ↓ws_iff, ↓ws_pass, ↓ws_fb, ↓ws_for, ↓ws_while, ↓ws_wc, ↓ws_wb, ↓wt_tup, ↓wt_nil, ↓wt_cons, ↓wt_sub, ↓wt_fld, ↓we_slot, ↓we_lit, ↓we_op, ↓we_cmp, ↓we_chain, ↓we_nt, ↓we_neg, ↓we_an, ↓we_orr, ↓we_ite, ↓we_tup, ↓we_lst, ↓we_dct, ↓we_sub, ↓we_slc, ↓we_rev, ↓we_fld, ↓we_call, ↓wmk_n, ↓we_mk, ↓we_meth, ↓we_blt, ↓we_bm, ↓we_lc, ↓wes_nil, ↓wes_cons, ↓wes_star, ↓wts_nil, ↓wts_cons, ↓wo_none, ↓wo_some, ↓wi_e, ↓wi_r1, ↓wi_r2, ↓wi_enum, ↓wi_enumS, ↓wi_zip, ↓wnx_n, ↓wnx_r, ↓blq, ↓v_kindS, ↓wb_join, ↓wb_app, ↓wb_pop, ↓wb_ext, ↓wo_lift, ↓x_name, ↓x_lb, ↓x_aug, ↓x_isi, ↓v_isI, ↓v_isB, ↓v_isS, ↓v_isT, ↓v_lenT, ↓v_int, ↓v_max2, ↓v_all, ↓v_any, ↓v_tupL, ↓v_disp0, ↓wk_ok, ↓wo_s, ↓wp_s, ↓wi_i, ↓v_slot0, ↓v_slotS, ↓ss_0, ↓ss_S, ↓sr_n, ↓sr_c, ↓sw_n, ↓sw_c, ↓v_opI, ↓v_add, ↓v_sub, ↓v_tr, ↓v_trO, ↓wf_t, ↓wf_f, ↓v_ix0, ↓v_ix1, ↓v_ix2, ↓v_ix3, ↓v_ix4, ↓v_ix5, ↓v_src, ↓v_perm, ↓wn_0, ↓wn_S, ↓wn_a0, ↓wn_aS, ↓wn_an, ↓dr_n, ↓dr_c, ↓wr_n, ↓wr_c, c_eqI, c_neI, c_ltI, c_gtI, c_leI, c_geI, d_ltI, d_gtI, d_leI, d_geI, c_isN, c_isntN, kindS, items_tup, true_and, and_true, ln_0, ln_1, ln_2, ln_3, ln_4, ln_5, ln_6, ln_7, ln_8, ln_9, ln_10, ln_11, ln_12, ln_13, ln_14, ln_15, ln_16, ln_17, ln_18, ln_19, ln_20]
            simpa [isModeB, ha, hb, e1] using q
          · simpa [isModeB, ha, hb, e1] using q
    | [] =>
      have : ((([] : List D).length : Nat) : Int) ≠ 4 := by simp
      simp -dsimp -failIfUnchanged only [↓wsq_n, ↓wsq_r, ↓wfin_n, ↓wfin_r, ↓ws_nil, ↓ws_cons, ↓ws_expr, ↓ws_set, ↓ws_ret, ↓ws_iff, ↓ws_pass, ↓ws_fb, ↓ws_for, ↓ws_while, ↓ws_wc, ↓ws_wb, ↓wt_tup, ↓wt_nil, ↓wt_cons, ↓wt_sub, ↓wt_fld, ↓we_slot, ↓we_lit, ↓we_op, ↓we_cmp, ↓we_chain, ↓we_nt, ↓we_neg, ↓we_an, ↓we_orr, ↓we_ite, ↓we_tup, ↓we_lst, ↓we_dct, ↓we_sub, ↓we_slc, ↓we_rev, ↓we_fld, ↓we_call, ↓wmk_n, ↓we_mk, ↓we_meth, ↓we_blt, ↓we_bm, ↓we_lc, ↓wes_nil, ↓wes_cons, ↓wes_star, ↓wts_nil, ↓wts_cons, ↓wo_none, ↓wo_some, ↓wi_e, ↓wi_r1, ↓wi_r2, ↓wi_enum, ↓wi_enumS, ↓wi_zip, ↓wnx_n, ↓wnx_r, ↓blq, ↓v_kindS, ↓wb_join, ↓wb_app, ↓wb_pop, ↓wb_ext, ↓wo_lift, ↓x_name, ↓x_lb, ↓x_aug, ↓x_isi, ↓v_isI, ↓v_isB, ↓v_isS, ↓v_isT, ↓v_lenT, ↓v_int, ↓v_max2, ↓v_all, ↓v_any, ↓v_tupL, ↓v_disp0, ↓wk_ok, ↓wo_s, ↓wp_s, ↓wi_i, ↓v_slot0, ↓v_slotS, ↓ss_0, ↓ss_S, ↓sr_n, ↓sr_c, ↓sw_n, ↓sw_c, ↓v_opI, ↓v_add, ↓v_sub, ↓v_tr, ↓v_trO, ↓wf_t, ↓wf_f, ↓v_ix0, ↓v_ix1, ↓v_ix2, ↓v_ix3, ↓v_ix4, ↓v_ix5, ↓v_src, ↓v_perm, ↓wn_0, ↓wn_S, ↓wn_a0, ↓wn_aS, ↓wn_an, ↓dr_n, ↓dr_c, ↓wr_n, ↓wr_c, c_eqI, c_neI, c_ltI, c_gtI, c_leI, c_geI, d_ltI, d_gtI, d_leI, d_geI, c_isN, c_isntN, kindS, items_tup, true_and, and_true, ln_0, ln_1, ln_2, ln_3, ln_4, ln_5, ln_6, ln_7, ln_8, ln_9, ln_10, ln_11, ln_12, ln_13, ln_14, ln_15, ln_16, ln_17, ln_18, ln_19, ln_20, this, decide_false, Bool.not_false]; exact q
    | [a] =>
      have : ((([a] : List D).length : Nat) : Int) ≠ 4 := by simp
      simp -dsimp -failIfUnchanged only [↓wsq_n, ↓wsq_r, ↓wfin_n, ↓wfin_r, ↓ws_nil, ↓ws_cons, ↓ws_expr, ↓ws_set, ↓ws_ret, ↓ws_iff, ↓ws_pass, ↓ws_fb, ↓ws_for, ↓ws_while, ↓ws_wc, ↓ws_wb, ↓wt_tup, ↓wt_nil, ↓wt_cons, ↓wt_sub, ↓wt_fld, ↓we_slot, ↓we_lit, ↓we_op, ↓we_cmp, ↓we_chain, ↓we_nt, ↓we_neg, ↓we_an, ↓we_orr, ↓we_ite, ↓we_tup, ↓we_lst, ↓we_dct, ↓we_sub, ↓we_slc, ↓we_rev, ↓we_fld, ↓we_call, ↓wmk_n, ↓we_mk, ↓we_meth, ↓we_blt, ↓we_bm, ↓we_lc, ↓wes_nil, ↓wes_cons, ↓wes_star, ↓wts_nil, ↓wts_cons, ↓wo_none, ↓wo_some, ↓wi_e, ↓wi_r1, ↓wi_r2, ↓wi_enum, ↓wi_enumS, ↓wi_zip, ↓wnx_n, ↓wnx_r, ↓blq, ↓v_kindS, ↓wb_join, ↓wb_app, ↓wb_pop, ↓wb_ext, ↓wo_lift, ↓x_name, ↓x_lb, ↓x_aug, ↓x_isi, ↓v_isI, ↓v_isB, ↓v_isS, ↓v_isT, ↓v_lenT, ↓v_int, ↓v_max2, ↓v_all, ↓v_any, ↓v_tupL, ↓v_disp0, ↓wk_ok, ↓wo_s, ↓wp_s, ↓wi_i, ↓v_slot0, ↓v_slotS, ↓ss_0, ↓ss_S, ↓sr_n, ↓sr_c, ↓sw_n, ↓sw_c, ↓v_opI, ↓v_add, ↓v_sub, ↓v_tr, ↓v_trO, ↓wf_t, ↓wf_f, ↓v_ix0, ↓v_ix1, ↓v_ix2, ↓v_ix3, ↓v_ix4, ↓v_ix5, ↓v_src, ↓v_perm, ↓wn_0, ↓wn_S, ↓wn_a0, ↓wn_aS, ↓wn_an, ↓dr_n, ↓dr_c, ↓wr_n, ↓wr_c, c_eqI, c_neI, c_ltI, c_gtI, c_leI, c_geI, d_ltI, d_gtI, d_leI, d_geI, c_isN, c_isntN, kindS, items_tup, true_and, and_true, ln_0, ln_1, ln_2, ln_3, ln_4, ln_5, ln_6, ln_7, ln_8, ln_9, ln_10, ln_11, ln_12, ln_13, ln_14, ln_15, ln_16, ln_17, ln_18, ln_19, ln_20, this, decide_false, Bool.not_false]; exact q
    | [a, b] =>
      have : ((([a, b] : List D).length : Nat) : Int) ≠ 4 := by simp
      simp -dsimp -failIfUnchanged only [↓wsq_n, ↓wsq_r, ↓wfin_n, ↓wfin_r, ↓ws_nil, ↓ws_cons, ↓ws_expr, ↓ws_set, ↓ws_ret, ↓ws_iff, ↓ws_pass, ↓ws_fb, ↓ws_for, ↓ws_while, ↓ws_wc, ↓ws_wb, ↓wt_tup, ↓wt_nil, ↓wt_cons, ↓wt_sub, ↓wt_fld, ↓we_slot, ↓we_lit, ↓we_op, ↓we_cmp, ↓we_chain, ↓we_nt, ↓we_neg, ↓we_an, ↓we_orr, ↓we_ite, ↓we_tup, ↓we_lst, ↓we_dct, ↓we_sub, ↓we_slc, ↓we_rev, ↓we_fld, ↓we_call, ↓wmk_n, ↓we_mk, ↓we_meth, ↓we_blt, ↓we_bm, ↓we_lc, ↓wes_nil, ↓wes_cons, ↓wes_star, ↓wts_nil, ↓wts_cons, ↓wo_none, ↓wo_some, ↓wi_e, ↓wi_r1, ↓wi_r2, ↓wi_enum, ↓wi_enumS, ↓wi_zip, ↓wnx_n, ↓wnx_r, ↓blq, ↓v_kindS, ↓wb_join, ↓wb_app, ↓wb_pop, ↓wb_ext, ↓wo_lift, ↓x_name, ↓x_lb, ↓x_aug, ↓x_isi, ↓v_isI, ↓v_isB, ↓v_isS, ↓v_isT, ↓v_lenT, ↓v_int, ↓v_max2, ↓v_all, ↓v_any, ↓v_tupL, ↓v_disp0, ↓wk_ok, ↓wo_s, ↓wp_s, ↓wi_i, ↓v_slot0, ↓v_slotS, ↓ss_0, ↓ss_S, ↓sr_n, ↓sr_c, ↓sw_n, ↓sw_c, ↓v_opI, ↓v_add, ↓v_sub, ↓v_tr, ↓v_trO, ↓wf_t, ↓wf_f, ↓v_ix0, ↓v_ix1, ↓v_ix2, ↓v_ix3, ↓v_ix4, ↓v_ix5, ↓v_src, ↓v_perm, ↓wn_0, ↓wn_S, ↓wn_a0, ↓wn_aS, ↓wn_an, ↓dr_n, ↓dr_c, ↓wr_n, ↓wr_c, c_eqI, c_neI, c_ltI, c_gtI, c_leI, c_geI, d_ltI, d_gtI, d_leI, d_geI, c_isN, c_isntN, kindS, items_tup, true_and, and_true, ln_0, ln_1, ln_2, ln_3, ln_4, ln_5, ln_6, ln_7, ln_8, ln_9, ln_10, ln_11, ln_12, ln_13, ln_14, ln_15, ln_16, ln_17, ln_18, ln_19, ln_20, this, decide_false, Bool.not_false]; exact q
    | [a, b, c] =>
      have : ((([a, b, c] : List D).length : Nat) : Int) ≠ 4 := by simp
      simp -dsimp -failIfUnchanged only [↓wsq_n, ↓wsq_r, ↓wfin_n, ↓wfin_r, ↓ws_nil, ↓ws_cons, ↓ws_expr, ↓ws_set, ↓ws_ret, ↓ws_iff, ↓ws_pass, ↓ws_fb, ↓ws_for, ↓ws_while, ↓ws_wc, ↓ws_wb, ↓wt_tup, ↓wt_nil, ↓wt_cons, ↓wt_sub, ↓wt_fld, ↓we_slot, ↓we_lit, ↓we_op, ↓we_cmp, ↓we_chain, ↓we_nt, ↓we_neg, ↓we_an, ↓we_orr, ↓we_ite, ↓we_tup, ↓we_lst, ↓we_dct, ↓we_sub, ↓we_slc, ↓we_rev, ↓we_fld, ↓we_call, ↓wmk_n, ↓we_mk, ↓we_meth, ↓we_blt, ↓we_bm, ↓we_lc, ↓wes_nil, ↓wes_cons, ↓wes_star, ↓wts_nil, ↓wts_cons, ↓wo_none, ↓wo_some, ↓wi_e, ↓wi_r1, ↓wi_r2, ↓wi_enum, ↓wi_enumS, ↓wi_zip, ↓wnx_n, ↓wnx_r, ↓blq, ↓v_kindS, ↓wb_join, ↓wb_app, ↓wb_pop, ↓wb_ext, ↓wo_lift, ↓x_name, ↓x_lb, ↓x_aug, ↓x_isi, ↓v_isI, ↓v_isB, ↓v_isS, ↓v_isT, ↓v_lenT, ↓v_int, ↓v_max2, ↓v_all, ↓v_any, ↓v_tupL, ↓v_disp0, ↓wk_ok, ↓wo_s, ↓wp_s, ↓wi_i, ↓v_slot0, ↓v_slotS, ↓ss_0, ↓ss_S, ↓sr_n, ↓sr_c, ↓sw_n, ↓sw_c, ↓v_opI, ↓v_add, ↓v_sub, ↓v_tr, ↓v_trO, ↓wf_t, ↓wf_f, ↓v_ix0, ↓v_ix1, ↓v_ix2, ↓v_ix3, ↓v_ix4, ↓v_ix5, ↓v_src, ↓v_perm, ↓wn_0, ↓wn_S, ↓wn_a0, ↓wn_aS, ↓wn_an, ↓dr_n, ↓dr_c, ↓wr_n, ↓wr_c, c_eqI, c_neI, c_ltI, c_gtI, c_leI, c_geI, d_ltI, d_gtI, d_leI, d_geI, c_isN, c_isntN, kindS, items_tup, true_and, and_true, ln_0, ln_1, ln_2, ln_3, ln_4, ln_5, ln_6, ln_7, ln_8, ln_9, ln_10, ln_11, ln_12, ln_13, ln_14, ln_15, ln_16, ln_17, ln_18, ln_19, ln_20, this, decide_false, Bool.not_false]; exact q
    | a :: b :: c :: d :: e :: r =>
      have : ((a :: b :: c :: d :: e :: r).length : Int) ≠ 4 := by simp only [List.length_cons]; omega
      simp -dsimp -failIfUnchanged only [↓wsq_n, ↓wsq_r, ↓wfin_n, ↓wfin_r, ↓ws_nil, ↓ws_cons, ↓ws_expr, ↓ws_set, ↓ws_ret, ↓ws_iff, ↓ws_pass, ↓ws_fb, ↓ws_for, ↓ws_while, ↓ws_wc, ↓ws_wb, ↓wt_tup, ↓wt_nil, ↓wt_cons, ↓wt_sub, ↓wt_fld, ↓we_slot, ↓we_lit, ↓we_op, ↓we_cmp, ↓we_chain, ↓we_nt, ↓we_neg, ↓we_an, ↓we_orr, ↓we_ite, ↓we_tup, ↓we_lst, ↓we_dct, ↓we_sub, ↓we_slc, ↓we_rev, ↓we_fld, ↓we_call, ↓wmk_n, ↓we_mk, ↓we_meth, ↓we_blt, ↓we_bm, ↓we_lc, ↓wes_nil, ↓wes_cons, ↓wes_star, ↓wts_nil, ↓wts_cons, ↓wo_none, ↓wo_some, ↓wi_e, ↓wi_r1, ↓wi_r2, ↓wi_enum, ↓wi_enumS, ↓wi_zip, ↓wnx_n, ↓wnx_r, ↓blq, ↓v_kindS, ↓wb_join, ↓wb_app, ↓wb_pop, ↓wb_ext, ↓wo_lift, ↓x_name, ↓x_lb, ↓x_aug, ↓x_isi, ↓v_isI, ↓v_isB, ↓v_isS, ↓v_isT, ↓v_lenT, ↓v_int, ↓v_max2, ↓v_all, ↓v_any, ↓v_tupL, ↓v_disp0, ↓wk_ok, ↓wo_s, ↓wp_s, ↓wi_i, ↓v_slot0, ↓v_slotS, ↓ss_0, ↓ss_S, ↓sr_n, ↓sr_c, ↓sw_n, ↓sw_c, ↓v_opI, ↓v_add, ↓v_sub, ↓v_tr, ↓v_trO, ↓wf_t, ↓wf_f, ↓v_ix0, ↓v_ix1, ↓v_ix2, ↓v_ix3, ↓v_ix4, ↓v_ix5, ↓v_src, ↓v_perm, ↓wn_0, ↓wn_S, ↓wn_a0, ↓wn_aS, ↓wn_an, ↓dr_n, ↓dr_c, ↓wr_n, ↓wr_c, c_eqI, c_neI, c_ltI, c_gtI, c_leI, c_geI, d_ltI, d_gtI, d_leI, d_geI, c_isN, c_isntN, kindS, items_tup, true_and, and_true, ln_0, ln_1, ln_2, ln_3, ln_4, ln_5, ln_6, ln_7, ln_8, ln_9, ln_10, ln_11, ln_12, ln_13, ln_14, ln_15, ln_16, ln_17, ln_18, ln_19, ln_20, this, decide_false, Bool.not_false]
      exact q
  | _ => simp -dsimp -failIfUnchanged only [↓wsq_n, ↓wsq_r, ↓wfin_n, ↓wfin_r, ↓ws_nil, ↓ws_cons, ↓ws_expr, ↓ws_set, ↓ws_ret, ↓ws_iff, ↓ws_pass, ↓ws_fb, ↓ws_for, ↓ws_while, ↓ws_wc, ↓ws_wb, ↓wt_tup, ↓wt_nil, ↓wt_cons, ↓wt_sub, ↓wt_fld, ↓we_slot, ↓we_lit, ↓we_op, ↓we_cmp, ↓we_chain, ↓we_nt, ↓we_neg, ↓we_an, ↓we_orr, ↓we_ite, ↓we_tup, ↓we_lst, ↓we_dct, ↓we_sub, ↓we_slc, ↓we_rev, ↓we_fld, ↓we_call, ↓wmk_n, ↓we_mk, ↓we_meth, ↓we_blt, ↓we_bm, ↓we_lc, ↓wes_nil, ↓wes_cons, ↓wes_star, ↓wts_nil, ↓wts_cons, ↓wo_none, ↓wo_some, ↓wi_e, ↓wi_r1, ↓wi_r2, ↓wi_enum, ↓wi_enumS, ↓wi_zip, ↓wnx_n, ↓wnx_r, ↓blq, ↓v_kindS, ↓wb_join, ↓wb_app, ↓wb_pop, ↓wb_ext, ↓wo_lift, ↓x_name, ↓x_lb, ↓x_aug, ↓x_isi, ↓v_isI, ↓v_isB, ↓v_isS, ↓v_isT, ↓v_lenT, ↓v_int, ↓v_max2, ↓v_all, ↓v_any, ↓v_tupL, ↓v_disp0, ↓wk_ok, ↓wo_s, ↓wp_s, ↓wi_i, ↓v_slot0, ↓v_slotS, ↓ss_0, ↓ss_S, ↓sr_n, ↓sr_c, ↓sw_n, ↓sw_c, ↓v_opI, ↓v_add, ↓v_sub, ↓v_tr, ↓v_trO, ↓wf_t, ↓wf_f, ↓v_ix0, ↓v_ix1, ↓v_ix2, ↓v_ix3, ↓v_ix4, ↓v_ix5, ↓v_src, ↓v_perm, ↓wn_0, ↓wn_S, ↓wn_a0, ↓wn_aS, ↓wn_an, ↓dr_n, ↓dr_c, ↓wr_n, ↓wr_c, c_eqI, c_neI, c_ltI, c_gtI, c_leI, c_geI, d_ltI, d_gtI, d_leI, d_geI, c_isN, c_isntN, kindS, items_tup, true_and, and_true, ln_0, ln_1, ln_2, ln_3, ln_4, ln_5, ln_6, ln_7, ln_8, ln_9, ln_10, ln_11, ln_12, ln_13, ln_14, ln_15, ln_16, ln_17, ln_18, ln_19, ln_20, isT, Bool.not_true, Bool.not_false]; exact q
theorem Panel_init_ok {i : Nat} {xs ys : List D} (hi : h[i]? = some (.obj 0 [])) (lx : xs.length < maxLen) (ly : ys.length < maxLen) (ok : okN 60 (.tup xs) = true) (ne : xs ≠ []) (vx : xs.all (isModeB xs.length) = true) (vy : ys.all (isRuleB xs.length) = true) (sh : ys.all shortsB = true)
    (q : ∀ h1, Same h h1 [i] → h1[i]? = some (O_Panel (.tup xs) (.tup ys)) → Q .non h1) : Wk X Q (fnAt P (k + 4) F_Panel_init [.ref i, .tup xs, .tup ys] h) := by
  rw [r_Panel_init]
  unfold T_Panel_init
  have e0 : xs.isEmpty = false := by cases xs with | nil => exact absurd rfl ne | cons x r => rfl
  simp -dsimp -failIfUnchanged only [↓wsq_n, ↓wsq_r, ↓wfin_n, ↓wfin_r, ↓ws_nil, ↓ws_cons, ↓ws_expr, ↓ws_set, ↓ws_ret, ↓ws_iff, ↓ws_pass, ↓ws_fb, ↓ws_for, ↓ws_while, ↓ws_wc, ↓ws_wb, ↓wt_tup, ↓wt_nil, ↓wt_cons, ↓wt_sub, ↓wt_fld, ↓we_slot, ↓we_lit, ↓we_op, ↓we_cmp, ↓we_chain, ↓we_nt, ↓we_neg, ↓we_an, ↓we_orr, ↓we_ite, ↓we_tup, ↓we_lst, ↓we_dct, ↓we_sub, ↓we_slc, ↓we_rev, ↓we_fld, ↓we_call, ↓wmk_n, ↓we_mk, ↓we_meth, ↓we_blt, ↓we_bm, ↓we_lc, ↓wes_nil, ↓wes_cons, ↓wes_star, ↓wts_nil, ↓wts_cons, ↓wo_none, ↓wo_some, ↓wi_e, ↓wi_r1, ↓wi_r2, ↓wi_enum, ↓wi_enumS, ↓wi_zip, ↓wnx_n, ↓wnx_r, ↓blq, ↓v_kindS, ↓wb_join, ↓wb_app, ↓wb_pop, ↓wb_ext, ↓wo_lift, ↓x_name, ↓x_lb, ↓x_aug, ↓x_isi, ↓v_isI, ↓v_isB, ↓v_isS, ↓v_isT, ↓v_lenT, ↓v_int, ↓v_max2, ↓v_all, ↓v_any, ↓v_tupL, ↓v_disp0, ↓wk_ok, ↓wo_s, ↓wp_s, ↓wi_i, ↓v_slot0, ↓v_slotS, ↓ss_0, ↓ss_S, ↓sr_n, ↓sr_c, ↓sw_n, ↓sw_c, ↓v_opI, ↓v_add, ↓v_sub, ↓v_tr, ↓v_trO, ↓wf_t, ↓wf_f, ↓v_ix0, ↓v_ix1, ↓v_ix2, ↓v_ix3, ↓v_ix4, ↓v_ix5, ↓v_src, ↓v_perm, ↓wn_0, ↓wn_S, ↓wn_a0, ↓wn_aS, ↓wn_an, ↓dr_n, ↓dr_c, ↓wr_n, ↓wr_c, c_eqI, c_neI, c_ltI, c_gtI, c_leI, c_geI, d_ltI, d_gtI, d_leI, d_geI, c_isN, c_isntN, kindS, items_tup, true_and, and_true, ln_0, ln_1, ln_2, ln_3, ln_4, ln_5, ln_6, ln_7, ln_8, ln_9, ln_10, ln_11, ln_12, ln_13, ln_14, ln_15, ln_16, ln_17, ln_18, ln_19, ln_20, isT, Bool.not_true, eq_unit ok, e0]
  refine lc_imm (fun d => some (.bl (isModeB xs.length d))) lx (fun x h1 Q1 hx s1 q1 => ?_) (fun h1 s1 => ?_)
  · simp -dsimp -failIfUnchanged only [↓wsq_n, ↓wsq_r, ↓wfin_n, ↓wfin_r, ↓ws_nil, ↓ws_cons, ↓ws_expr, ↓ws_set, ↓ws_ret, ↓ws_iff, ↓ws_pass, ↓ws_fb, ↓ws_for, ↓ws_while, ↓ws_wc, ↓ws_wb, ↓wt_tup, ↓wt_nil, ↓wt_cons, ↓wt_sub, ↓wt_fld, ↓we_slot, ↓we_lit, ↓we_op, ↓we_cmp, ↓we_chain, ↓we_nt, ↓we_neg, ↓we_an, ↓we_orr, ↓we_ite, ↓we_tup, ↓we_lst, ↓we_dct, ↓we_sub, ↓we_slc, ↓we_rev, ↓we_fld, ↓we_call, ↓wmk_n, ↓we_mk, ↓we_meth, ↓we_blt, ↓we_bm, ↓we_lc, ↓wes_nil, ↓wes_cons, ↓wes_star, ↓wts_nil, ↓wts_cons, ↓wo_none, ↓wo_some, ↓wi_e, ↓wi_r1, ↓wi_r2, ↓wi_enum, ↓wi_enumS, ↓wi_zip, ↓wnx_n, ↓wnx_r, ↓blq, ↓v_kindS, ↓wb_join, ↓wb_app, ↓wb_pop, ↓wb_ext, ↓wo_lift, ↓x_name, ↓x_lb, ↓x_aug, ↓x_isi, ↓v_isI, ↓v_isB, ↓v_isS, ↓v_isT, ↓v_lenT, ↓v_int, ↓v_max2, ↓v_all, ↓v_any, ↓v_tupL, ↓v_disp0, ↓wk_ok, ↓wo_s, ↓wp_s, ↓wi_i, ↓v_slot0, ↓v_slotS, ↓ss_0, ↓ss_S, ↓sr_n, ↓sr_c, ↓sw_n, ↓sw_c, ↓v_opI, ↓v_add, ↓v_sub, ↓v_tr, ↓v_trO, ↓wf_t, ↓wf_f, ↓v_ix0, ↓v_ix1, ↓v_ix2, ↓v_ix3, ↓v_ix4, ↓v_ix5, ↓v_src, ↓v_perm, ↓wn_0, ↓wn_S, ↓wn_a0, ↓wn_aS, ↓wn_an, ↓dr_n, ↓dr_c, ↓wr_n, ↓wr_c, c_eqI, c_neI, c_ltI, c_gtI, c_leI, c_geI, d_ltI, d_gtI, d_leI, d_geI, c_isN, c_isntN, kindS, items_tup, true_and, and_true, ln_0, ln_1, ln_2, ln_3, ln_4, ln_5, ln_6, ln_7, ln_8, ln_9, ln_10, ln_11, ln_12, ln_13, ln_14, ln_15, ln_16, ln_17, ln_18, ln_19, ln_20]
    refine is_mode_ok ?_
    simp -dsimp -failIfUnchanged only [↓wsq_n, ↓wsq_r, ↓wfin_n, ↓wfin_r, ↓ws_nil, ↓ws_cons, ↓ws_expr, ↓ws_set, ↓ws_ret, ↓ws_iff, ↓ws_pass, ↓ws_fb, ↓ws_for, ↓ws_while, ↓ws_wc, ↓ws_wb, ↓wt_tup, ↓wt_nil, ↓wt_cons, ↓wt_sub, ↓wt_fld, ↓we_slot, ↓we_lit, ↓we_op, ↓we_cmp, ↓we_chain, ↓we_nt, ↓we_neg, ↓we_an, ↓we_orr, ↓we_ite, ↓we_tup, ↓we_lst, ↓we_dct, ↓we_sub, ↓we_slc, ↓we_rev, ↓we_fld, ↓we_call, ↓wmk_n, ↓we_mk, ↓we_meth, ↓we_blt, ↓we_bm, ↓we_lc, ↓wes_nil, ↓wes_cons, ↓wes_star, ↓wts_nil, ↓wts_cons, ↓wo_none, ↓wo_some, ↓wi_e, ↓wi_r1, ↓wi_r2, ↓wi_enum, ↓wi_enumS, ↓wi_zip, ↓wnx_n, ↓wnx_r, ↓blq, ↓v_kindS, ↓wb_join, ↓wb_app, ↓wb_pop, ↓wb_ext, ↓wo_lift, ↓x_name, ↓x_lb, ↓x_aug, ↓x_isi, ↓v_isI, ↓v_isB, ↓v_isS, ↓v_isT, ↓v_lenT, ↓v_int, ↓v_max2, ↓v_all, ↓v_any, ↓v_tupL, ↓v_disp0, ↓wk_ok, ↓wo_s, ↓wp_s, ↓wi_i, ↓v_slot0, ↓v_slotS, ↓ss_0, ↓ss_S, ↓sr_n, ↓sr_c, ↓sw_n, ↓sw_c, ↓v_opI, ↓v_add, ↓v_sub, ↓v_tr, ↓v_trO, ↓wf_t, ↓wf_f, ↓v_ix0, ↓v_ix1, ↓v_ix2, ↓v_ix3, ↓v_ix4, ↓v_ix5, ↓v_src, ↓v_perm, ↓wn_0, ↓wn_S, ↓wn_a0, ↓wn_aS, ↓wn_an, ↓dr_n, ↓dr_c, ↓wr_n, ↓wr_c, c_eqI, c_neI, c_ltI, c_gtI, c_leI, c_geI, d_ltI, d_gtI, d_leI, d_geI, c_isN, c_isntN, kindS, items_tup, true_and, and_true, ln_0, ln_1, ln_2, ln_3, ln_4, ln_5, ln_6, ln_7, ln_8, ln_9, ln_10, ln_11, ln_12, ln_13, ln_14, ln_15, ln_16, ln_17, ln_18, ln_19, ln_20]
    exact q1 _ Same.refl
  rw [map_filterMap]
  simp -dsimp -failIfUnchanged only [↓wsq_n, ↓wsq_r, ↓wfin_n, ↓wfin_r, ↓ws_nil, ↓ws_cons, ↓ws_expr, ↓ws_set, ↓ws_ret, ↓ws_iff, ↓ws_pass, ↓ws_fb, ↓ws_for, ↓ws_while, ↓ws_wc, ↓ws_wb, ↓wt_tup, ↓wt_nil, ↓wt_cons, ↓wt_sub, ↓wt_fld, ↓we_slot, ↓we_lit, ↓we_op, ↓we_cmp, ↓we_chain, ↓we_nt, ↓we_neg, ↓we_an, ↓we_orr, ↓we_ite, ↓we_tup, ↓we_lst, ↓we_dct, ↓we_sub, ↓we_slc, ↓we_rev, ↓we_fld, ↓we_call, ↓wmk_n, ↓we_mk, ↓we_meth, ↓we_blt, ↓we_bm, ↓we_lc, ↓wes_nil, ↓wes_cons, ↓wes_star, ↓wts_nil, ↓wts_cons, ↓wo_none, ↓wo_some, ↓wi_e, ↓wi_r1, ↓wi_r2, ↓wi_enum, ↓wi_enumS, ↓wi_zip, ↓wnx_n, ↓wnx_r, ↓blq, ↓v_kindS, ↓wb_join, ↓wb_app, ↓wb_pop, ↓wb_ext, ↓wo_lift, ↓x_name, ↓x_lb, ↓x_aug, ↓x_isi, ↓v_isI, ↓v_isB, ↓v_isS, ↓v_isT, ↓v_lenT, ↓v_int, ↓v_max2, ↓v_all, ↓v_any, ↓v_tupL, ↓v_disp0, ↓wk_ok, ↓wo_s, ↓wp_s, ↓wi_i, ↓v_slot0, ↓v_slotS, ↓ss_0, ↓ss_S, ↓sr_n, ↓sr_c, ↓sw_n, ↓sw_c, ↓v_opI, ↓v_add, ↓v_sub, ↓v_tr, ↓v_trO, ↓wf_t, ↓wf_f, ↓v_ix0, ↓v_ix1, ↓v_ix2, ↓v_ix3, ↓v_ix4, ↓v_ix5, ↓v_src, ↓v_perm, ↓wn_0, ↓wn_S, ↓wn_a0, ↓wn_aS, ↓wn_an, ↓dr_n, ↓dr_c, ↓wr_n, ↓wr_c, c_eqI, c_neI, c_ltI, c_gtI, c_leI, c_geI, d_ltI, d_gtI, d_leI, d_geI, c_isN, c_isntN, kindS, items_tup, true_and, and_true, ln_0, ln_1, ln_2, ln_3, ln_4, ln_5, ln_6, ln_7, ln_8, ln_9, ln_10, ln_11, ln_12, ln_13, ln_14, ln_15, ln_16, ln_17, ln_18, ln_19, ln_20, vx, Bool.not_true, isT]
  refine lc_imm (fun d => some (.bl (isRuleB xs.length d))) ly (fun x h2 Q1 hx s2 q2 => ?_) (fun h2 s2 => ?_)
  · simp -dsimp -failIfUnchanged only [↓wsq_n, ↓wsq_r, ↓wfin_n, ↓wfin_r, ↓ws_nil, ↓ws_cons, ↓ws_expr, ↓ws_set, ↓ws_ret, ↓ws_iff, ↓ws_pass, ↓ws_fb, ↓ws_for, ↓ws_while, ↓ws_wc, ↓ws_wb, ↓wt_tup, ↓wt_nil, ↓wt_cons, ↓wt_sub, ↓wt_fld, ↓we_slot, ↓we_lit, ↓we_op, ↓we_cmp, ↓we_chain, ↓we_nt, ↓we_neg, ↓we_an, ↓we_orr, ↓we_ite, ↓we_tup, ↓we_lst, ↓we_dct, ↓we_sub, ↓we_slc, ↓we_rev, ↓we_fld, ↓we_call, ↓wmk_n, ↓we_mk, ↓we_meth, ↓we_blt, ↓we_bm, ↓we_lc, ↓wes_nil, ↓wes_cons, ↓wes_star, ↓wts_nil, ↓wts_cons, ↓wo_none, ↓wo_some, ↓wi_e, ↓wi_r1, ↓wi_r2, ↓wi_enum, ↓wi_enumS, ↓wi_zip, ↓wnx_n, ↓wnx_r, ↓blq, ↓v_kindS, ↓wb_join, ↓wb_app, ↓wb_pop, ↓wb_ext, ↓wo_lift, ↓x_name, ↓x_lb, ↓x_aug, ↓x_isi, ↓v_isI, ↓v_isB, ↓v_isS, ↓v_isT, ↓v_lenT, ↓v_int, ↓v_max2, ↓v_all, ↓v_any, ↓v_tupL, ↓v_disp0, ↓wk_ok, ↓wo_s, ↓wp_s, ↓wi_i, ↓v_slot0, ↓v_slotS, ↓ss_0, ↓ss_S, ↓sr_n, ↓sr_c, ↓sw_n, ↓sw_c, ↓v_opI, ↓v_add, ↓v_sub, ↓v_tr, ↓v_trO, ↓wf_t, ↓wf_f, ↓v_ix0, ↓v_ix1, ↓v_ix2, ↓v_ix3, ↓v_ix4, ↓v_ix5, ↓v_src, ↓v_perm, ↓wn_0, ↓wn_S, ↓wn_a0, ↓wn_aS, ↓wn_an, ↓dr_n, ↓dr_c, ↓wr_n, ↓wr_c, c_eqI, c_neI, c_ltI, c_gtI, c_leI, c_geI, d_ltI, d_gtI, d_leI, d_geI, c_isN, c_isntN, kindS, items_tup, true_and, and_true, ln_0, ln_1, ln_2, ln_3, ln_4, ln_5, ln_6, ln_7, ln_8, ln_9, ln_10, ln_11, ln_12, ln_13, ln_14, ln_15, ln_16, ln_17, ln_18, ln_19, ln_20]
    refine is_rule_ok (List.all_eq_true.mp sh x hx) ?_
    simp -dsimp -failIfUnchanged only [↓wsq_n, ↓wsq_r, ↓wfin_n, ↓wfin_r, ↓ws_nil, ↓ws_cons, ↓ws_expr, ↓ws_set, ↓ws_ret, ↓ws_iff, ↓ws_pass, ↓ws_fb, ↓ws_for, ↓ws_while, ↓ws_wc, ↓ws_wb, ↓wt_tup, ↓wt_nil, ↓wt_cons, ↓wt_sub, ↓wt_fld, ↓we_slot, ↓we_lit, ↓we_op, ↓we_cmp, ↓we_chain, ↓we_nt, ↓we_neg, ↓we_an, ↓we_orr, ↓we_ite, ↓we_tup, ↓we_lst, ↓we_dct, ↓we_sub, ↓we_slc, ↓we_rev, ↓we_fld, ↓we_call, ↓wmk_n, ↓we_mk, ↓we_meth, ↓we_blt, ↓we_bm, ↓we_lc, ↓wes_nil, ↓wes_cons, ↓wes_star, ↓wts_nil, ↓wts_cons, ↓wo_none, ↓wo_some, ↓wi_e, ↓wi_r1, ↓wi_r2, ↓wi_enum, ↓wi_enumS, ↓wi_zip, ↓wnx_n, ↓wnx_r, ↓blq, ↓v_kindS, ↓wb_join, ↓wb_app, ↓wb_pop, ↓wb_ext, ↓wo_lift, ↓x_name, ↓x_lb, ↓x_aug, ↓x_isi, ↓v_isI, ↓v_isB, ↓v_isS, ↓v_isT, ↓v_lenT, ↓v_int, ↓v_max2, ↓v_all, ↓v_any, ↓v_tupL, ↓v_disp0, ↓wk_ok, ↓wo_s, ↓wp_s, ↓wi_i, ↓v_slot0, ↓v_slotS, ↓ss_0, ↓ss_S, ↓sr_n, ↓sr_c, ↓sw_n, ↓sw_c, ↓v_opI, ↓v_add, ↓v_sub, ↓v_tr, ↓v_trO, ↓wf_t, ↓wf_f, ↓v_ix0, ↓v_ix1, ↓v_ix2, ↓v_ix3, ↓v_ix4, ↓v_ix5, ↓v_src, ↓v_perm, ↓wn_0, ↓wn_S, ↓wn_a0, ↓wn_aS, ↓wn_an, ↓dr_n, ↓dr_c, ↓wr_n, ↓wr_c, c_eqI, c_neI, c_ltI, c_gtI, c_leI, c_geI, d_ltI, d_gtI, d_leI, d_geI, c_isN, c_isntN, kindS, items_tup, true_and, and_true, ln_0, ln_1, ln_2, ln_3, ln_4, ln_5, ln_6, ln_7, ln_8, ln_9, ln_10, ln_11, ln_12, ln_13, ln_14, ln_15, ln_16, ln_17, ln_18, ln_19, ln_20]
    exact q2 _ Same.refl
  rw [map_filterMap]
  have s3 : Same h (h2 ++ [.lst (ys.map fun x => .bl (isRuleB xs.length x))]) [i] := ((s1.new.trans s2).new).wide
  have g3 : (h2 ++ [.lst (ys.map fun x => .bl (isRuleB xs.length x))])[i]? = some (.obj 0 []) := ((s1.new.trans s2).new).get0 hi
  simp -dsimp -failIfUnchanged only [↓wsq_n, ↓wsq_r, ↓wfin_n, ↓wfin_r, ↓ws_nil, ↓ws_cons, ↓ws_expr, ↓ws_set, ↓ws_ret, ↓ws_iff, ↓ws_pass, ↓ws_fb, ↓ws_for, ↓ws_while, ↓ws_wc, ↓ws_wb, ↓wt_tup, ↓wt_nil, ↓wt_cons, ↓wt_sub, ↓wt_fld, ↓we_slot, ↓we_lit, ↓we_op, ↓we_cmp, ↓we_chain, ↓we_nt, ↓we_neg, ↓we_an, ↓we_orr, ↓we_ite, ↓we_tup, ↓we_lst, ↓we_dct, ↓we_sub, ↓we_slc, ↓we_rev, ↓we_fld, ↓we_call, ↓wmk_n, ↓we_mk, ↓we_meth, ↓we_blt, ↓we_bm, ↓we_lc, ↓wes_nil, ↓wes_cons, ↓wes_star, ↓wts_nil, ↓wts_cons, ↓wo_none, ↓wo_some, ↓wi_e, ↓wi_r1, ↓wi_r2, ↓wi_enum, ↓wi_enumS, ↓wi_zip, ↓wnx_n, ↓wnx_r, ↓blq, ↓v_kindS, ↓wb_join, ↓wb_app, ↓wb_pop, ↓wb_ext, ↓wo_lift, ↓x_name, ↓x_lb, ↓x_aug, ↓x_isi, ↓v_isI, ↓v_isB, ↓v_isS, ↓v_isT, ↓v_lenT, ↓v_int, ↓v_max2, ↓v_all, ↓v_any, ↓v_tupL, ↓v_disp0, ↓wk_ok, ↓wo_s, ↓wp_s, ↓wi_i, ↓v_slot0, ↓v_slotS, ↓ss_0, ↓ss_S, ↓sr_n, ↓sr_c, ↓sw_n, ↓sw_c, ↓v_opI, ↓v_add, ↓v_sub, ↓v_tr, ↓v_trO, ↓wf_t, ↓wf_f, ↓v_ix0, ↓v_ix1, ↓v_ix2, ↓v_ix3, ↓v_ix4, ↓v_ix5, ↓v_src, ↓v_perm, ↓wn_0, ↓wn_S, ↓wn_a0, ↓wn_aS, ↓wn_an, ↓dr_n, ↓dr_c, ↓wr_n, ↓wr_c, c_eqI, c_neI, c_ltI, c_gtI, c_leI, c_geI, d_ltI, d_gtI, d_leI, d_geI, c_isN, c_isntN, kindS, items_tup, true_and, and_true, ln_0, ln_1, ln_2, ln_3, ln_4, ln_5, ln_6, ln_7, ln_8, ln_9, ln_10, ln_11, ln_12, ln_13, ln_14, ln_15, ln_16, ln_17, ln_18, ln_19, ln_20, vy, Bool.not_true, s_Panel_modes g3, s_Panel_rules (set_get g3)]
  exact q _ ((s3.set (.inl (by simp))).set (.inl (by simp))) (set_get (set_get g3))
theorem Panel_new {xs ys : List D} (lx : xs.length < maxLen) (ly : ys.length < maxLen) (ok : okN 60 (.tup xs) = true) (ne : xs ≠ []) (vx : xs.all (isModeB xs.length) = true) (vy : ys.all (isRuleB xs.length) = true) (sh : ys.all shortsB = true)
    (q : ∀ h1 i, Same h h1 [] → h.length ≤ i → h1[i]? = some (O_Panel (.tup xs) (.tup ys)) → Q (.ref i) h1) : Wk X (MkQ Q h.length) (fnAt P (k + 4) F_Panel_init [.ref h.length, .tup xs, .tup ys] (h ++ [.obj 0 []])) := by
  refine Panel_init_ok new_get lx ly ok ne vx vy sh fun h1 s1 g1 => ?_
  exact q h1 h.length ((same_new.wide.trans s1).drop (Nat.le_refl _)) (Nat.le_refl _) g1
theorem Panel_eq_ok {i j : Nat} {a b c d : D} (hi : h[i]? = some (O_Panel a b)) (hj : h[j]? = some (O_Panel c d)) (oa : okN 60 a = true) (ob : okN 60 b = true) (oc : okN 60 c = true) (od : okN 60 d = true)
    (q : Q (.bl (peq a c && peq b d)) h) : Wk X Q (fnAt P (k + 1) F_Panel_eq [.ref i, .ref j] h) := by
  rw [r_Panel_eq]
  unfold T_Panel_eq
  simp -dsimp -failIfUnchanged only [↓wsq_n, ↓wsq_r, ↓wfin_n, ↓wfin_r, ↓ws_nil, ↓ws_cons, ↓ws_expr, ↓ws_set, ↓ws_ret, ↓ws_iff, ↓ws_pass, ↓ws_fb, ↓ws_for, ↓ws_while, ↓ws_wc, ↓ws_wb, ↓wt_tup, ↓wt_nil, ↓wt_cons, ↓wt_sub, ↓wt_fld, ↓we_slot, ↓we_lit, ↓we_op, ↓we_cmp, ↓we_chain, ↓we_nt, ↓we_neg, ↓we_an, ↓we_orr, ↓we_ite, ↓we_tup, ↓we_lst, ↓we_dct, ↓we_sub, ↓we_slc, ↓we_rev, ↓we_fld, ↓we_call, ↓wmk_n, ↓we_mk, ↓we_meth, ↓we_blt, ↓we_bm, ↓we_lc, ↓wes_nil, ↓wes_cons, ↓wes_star, ↓wts_nil, ↓wts_cons, ↓wo_none, ↓wo_some, ↓wi_e, ↓wi_r1, ↓wi_r2, ↓wi_enum, ↓wi_enumS, ↓wi_zip, ↓wnx_n, ↓wnx_r, ↓blq, ↓v_kindS, ↓wb_join, ↓wb_app, ↓wb_pop, ↓wb_ext, ↓wo_lift, ↓x_name, ↓x_lb, ↓x_aug, ↓x_isi, ↓v_isI, ↓v_isB, ↓v_isS, ↓v_isT, ↓v_lenT, ↓v_int, ↓v_max2, ↓v_all, ↓v_any, ↓v_tupL, ↓v_disp0, ↓wk_ok, ↓wo_s, ↓wp_s, ↓wi_i, ↓v_slot0, ↓v_slotS, ↓ss_0, ↓ss_S, ↓sr_n, ↓sr_c, ↓sw_n, ↓sw_c, ↓v_opI, ↓v_add, ↓v_sub, ↓v_tr, ↓v_trO, ↓wf_t, ↓wf_f, ↓v_ix0, ↓v_ix1, ↓v_ix2, ↓v_ix3, ↓v_ix4, ↓v_ix5, ↓v_src, ↓v_perm, ↓wn_0, ↓wn_S, ↓wn_a0, ↓wn_aS, ↓wn_an, ↓dr_n, ↓dr_c, ↓wr_n, ↓wr_c, c_eqI, c_neI, c_ltI, c_gtI, c_leI, c_geI, d_ltI, d_gtI, d_leI, d_geI, c_isN, c_isntN, kindS, items_tup, true_and, and_true, ln_0, ln_1, ln_2, ln_3, ln_4, ln_5, ln_6, ln_7, ln_8, ln_9, ln_10, ln_11, ln_12, ln_13, ln_14, ln_15, ln_16, ln_17, ln_18, ln_19, ln_20, isi_cls hj, decide_true, a_Panel_modes hi, a_Panel_rules hi, a_Panel_modes hj, a_Panel_rules hj, c_eq oa oc, c_eq ob od]
  refine wf_i (fun e => ?_) (fun e => ?_)
  · simp -dsimp -failIfUnchanged only [↓wsq_n, ↓wsq_r, ↓wfin_n, ↓wfin_r, ↓ws_nil, ↓ws_cons, ↓ws_expr, ↓ws_set, ↓ws_ret, ↓ws_iff, ↓ws_pass, ↓ws_fb, ↓ws_for, ↓ws_while, ↓ws_wc, ↓ws_wb, ↓wt_tup, ↓wt_nil, ↓wt_cons, ↓wt_sub, ↓wt_fld, ↓we_slot, ↓we_lit, ↓we_op, ↓we_cmp, ↓we_chain, ↓we_nt, ↓we_neg, ↓we_an, ↓we_orr, ↓we_ite, ↓we_tup, ↓we_lst, ↓we_dct, ↓we_sub, ↓we_slc, ↓we_rev, ↓we_fld, ↓we_call, ↓wmk_n, ↓we_mk, ↓we_meth, ↓we_blt, ↓we_bm, ↓we_lc, ↓wes_nil, ↓wes_cons, ↓wes_star, ↓wts_nil, ↓wts_cons, ↓wo_none, ↓wo_some, ↓wi_e, ↓wi_r1, ↓wi_r2, ↓wi_enum, ↓wi_enumS, ↓wi_zip, ↓wnx_n, ↓wnx_r, ↓blq, ↓v_kindS, ↓wb_join, ↓wb_app, ↓wb_pop, ↓wb_ext, ↓wo_lift, ↓x_name, ↓x_lb, ↓x_aug, ↓x_isi, ↓v_isI, ↓v_isB, ↓v_isS, ↓v_isT, ↓v_lenT, ↓v_int, ↓v_max2, ↓v_all, ↓v_any, ↓v_tupL, ↓v_disp0, ↓wk_ok, ↓wo_s, ↓wp_s, ↓wi_i, ↓v_slot0, ↓v_slotS, ↓ss_0, ↓ss_S, ↓sr_n, ↓sr_c, ↓sw_n, ↓sw_c, ↓v_opI, ↓v_add, ↓v_sub, ↓v_tr, ↓v_trO, ↓wf_t, ↓wf_f, ↓v_ix0, ↓v_ix1, ↓v_ix2, ↓v_ix3, ↓v_ix4, ↓v_ix5, ↓v_src, ↓v_perm, ↓wn_0, ↓wn_S, ↓wn_a0, ↓wn_aS, ↓wn_an, ↓dr_n, ↓dr_c, ↓wr_n, ↓wr_c, c_eqI, c_neI, c_ltI, c_gtI, c_leI, c_geI, d_ltI, d_gtI, d_leI, d_geI, c_isN, c_isntN, kindS, items_tup, true_and, and_true, ln_0, ln_1, ln_2, ln_3, ln_4, ln_5, ln_6, ln_7, ln_8, ln_9, ln_10, ln_11, ln_12, ln_13, ln_14, ln_15, ln_16, ln_17, ln_18, ln_19, ln_20, a_Panel_modes hi, a_Panel_rules hi, a_Panel_modes hj, a_Panel_rules hj, c_eq oa oc, c_eq ob od]
    simpa [e] using q
  · simp -dsimp -failIfUnchanged only [↓wsq_n, ↓wsq_r, ↓wfin_n, ↓wfin_r, ↓ws_nil, ↓ws_cons, ↓ws_expr, ↓ws_set, ↓ws_ret, ↓ws_iff, ↓ws_pass, ↓ws_fb, ↓ws_for, ↓ws_while, ↓ws_wc, ↓ws_wb, ↓wt_tup, ↓wt_nil, ↓wt_cons, ↓wt_sub, ↓wt_fld, ↓we_slot, ↓we_lit, ↓we_op, ↓we_cmp, ↓we_chain, ↓we_nt, ↓we_neg, ↓we_an, ↓we_orr, ↓we_ite, ↓we_tup, ↓we_lst, ↓we_dct, ↓we_sub, ↓we_slc, ↓we_rev, ↓we_fld, ↓we_call, ↓wmk_n, ↓we_mk, ↓we_meth, ↓we_blt, ↓we_bm, ↓we_lc, ↓wes_nil, ↓wes_cons, ↓wes_star, ↓wts_nil, ↓wts_cons, ↓wo_none, ↓wo_some, ↓wi_e, ↓wi_r1, ↓wi_r2, ↓wi_enum, ↓wi_enumS, ↓wi_zip, ↓wnx_n, ↓wnx_r, ↓blq, ↓v_kindS, ↓wb_join, ↓wb_app, ↓wb_pop, ↓wb_ext, ↓wo_lift, ↓x_name, ↓x_lb, ↓x_aug, ↓x_isi, ↓v_isI, ↓v_isB, ↓v_isS, ↓v_isT, ↓v_lenT, ↓v_int, ↓v_max2, ↓v_all, ↓v_any, ↓v_tupL, ↓v_disp0, ↓wk_ok, ↓wo_s, ↓wp_s, ↓wi_i, ↓v_slot0, ↓v_slotS, ↓ss_0, ↓ss_S, ↓sr_n, ↓sr_c, ↓sw_n, ↓sw_c, ↓v_opI, ↓v_add, ↓v_sub, ↓v_tr, ↓v_trO, ↓wf_t, ↓wf_f, ↓v_ix0, ↓v_ix1, ↓v_ix2, ↓v_ix3, ↓v_ix4, ↓v_ix5, ↓v_src, ↓v_perm, ↓wn_0, ↓wn_S, ↓wn_a0, ↓wn_aS, ↓wn_an, ↓dr_n, ↓dr_c, ↓wr_n, ↓wr_c, c_eqI, c_neI, c_ltI, c_gtI, c_leI, c_geI, d_ltI, d_gtI, d_leI, d_geI, c_isN, c_isntN, kindS, items_tup, true_and, and_true, ln_0, ln_1, ln_2, ln_3, ln_4, ln_5, ln_6, ln_7, ln_8, ln_9, ln_10, ln_11, ln_12, ln_13, ln_14, ln_15, ln_16, ln_17, ln_18, ln_19, ln_20]
    simpa [e] using q
end
end Lw
end
section
set_option autoImplicit false
set_option Elab.async false
set_option linter.all false
set_option maxRecDepth 8000
set_option maxHeartbeats 4000000
namespace Lw
open PySem Q Qw
theorem encA_inj : ∀ a b : Nat × Nat, encA a = encA b → a = b := by
  rintro ⟨a, b⟩ ⟨c, d⟩ e
  simp only [encA, D.tup.injEq, List.cons.injEq, D.int.injEq, and_true] at e
  rw [show a = c by omega, show b = d by omega]
theorem encA_key : ∀ a : Nat × Nat, isTupK (encA a) = true := fun a => rfl
/-- a panel whose modes are all there -/
structure VP (ms : List Md) (rs : List Rl) : Prop where
  ne : ms ≠ []
  late : ∀ m ∈ ms, m.late < ms.length
  next : ∀ r ∈ rs, r.next < ms.length
  wait : ∀ m ∈ ms, m.wait ≤ 99
  here : ∀ r ∈ rs, r.here < ms.length
  sig : ∀ r ∈ rs, 65 ≤ r.sig ∧ r.sig ≤ 90
def ValidS (ms : List Md) (s : Nat × Nat) : Prop := ∃ md, ms[s.1]? = some md ∧ s.2 < max 1 md.wait
def armS (ms : List Md) (s : Nat × Nat) : Bool := match ms[s.1]? with
  | some md => md.armed
  | none => false
def allS (ms : List Md) : List (Nat × Nat) := (List.range ms.length).flatMap fun m => (List.range (max 1 ((ms[m]?.map (·.wait)).getD 0))).map fun a => (m, a)
def sumW (ms : List Md) : Nat := (ms.map fun m => max 1 m.wait).sum
theorem mem_allS {ms : List Md} {s : Nat × Nat} : s ∈ allS ms ↔ ValidS ms s := by
  obtain ⟨m, a⟩ := s
  simp only [allS, List.mem_flatMap, List.mem_range, List.mem_map, ValidS]
  constructor
  · rintro ⟨m', hm, a', ha, e⟩
    cases e
    refine ⟨ms[m], List.getElem?_eq_getElem hm, ?_⟩
    simpa [List.getElem?_eq_getElem hm] using ha
  · rintro ⟨md, e, l⟩
    refine ⟨m, (List.getElem?_eq_some_iff.mp e).1, a, ?_, rfl⟩
    simpa [e] using l
theorem len_allS {ms : List Md} : (allS ms).length = sumW ms := by
  have : ∀ (pre ms : List Md), ((List.range' pre.length ms.length).flatMap fun m => (List.range (max 1 (((pre ++ ms)[m]?.map (·.wait)).getD 0))).map fun a => (m, a)).length = sumW ms := by
    intro pre ms
    induction ms generalizing pre with
    | nil => rfl
    | cons x xs ih =>
      have := ih (pre ++ [x])
      simp only [List.length_append, List.length_cons, List.length_nil, List.append_assoc, List.cons_append, List.nil_append] at this
      rw [List.length_cons, List.range'_succ, List.flatMap_cons, List.length_append, List.length_map, List.length_range, this, List.getElem?_append_right (Nat.le_refl _), Nat.sub_self]
      simp [sumW]
  have := this [] ms
  rw [← this]
  simp [allS, List.range_eq_range']
theorem valid_goes {ms : List Md} {rs : List Rl} (v : VP ms rs) {m a : Nat} (vs : ValidS ms (m, a)) (y : List Nat) : ValidS ms (goesP ms rs m a y) := by
  have good : ∀ n, n < ms.length → ValidS ms (n, 0) := fun n hn => ⟨ms[n], List.getElem?_eq_getElem hn, by simp only; omega⟩
  obtain ⟨md, e, l⟩ := vs
  simp only at e l
  unfold goesP
  split
  · next r hr => exact good _ (v.next r (List.mem_of_find?_eq_some hr))
  · rw [e]
    dsimp only
    split
    · exact ⟨md, e, l⟩
    · split
      · exact ⟨md, e, by simp only; omega⟩
      · exact good _ (v.late md (List.mem_of_getElem? e))
theorem valid_itn {ms : List Md} {rs : List Rl} (v : VP ms rs) {s : Nat × Nat} (vs : ValidS ms s) : ∀ n, ValidS ms (itn (fun s => goesP ms rs s.1 s.2 []) n s)
  | 0 => vs
  | n + 1 => valid_goes v (valid_itn v vs n) []
def encO (o : Option Nat) : D := match o with
  | some n => .int n
  | none => .non
abbrev goF (ms : List Md) (rs : List Rl) : Nat × Nat → Nat × Nat := fun s => goesP ms rs s.1 s.2 []
def tillKv (ms : List Md) (rs : List Rl) (s : Nat × Nat) (n : Nat) : List ((Nat × Nat) × Bool) := (List.range n).map fun j => (itn (goF ms rs) j s, true)
def tillI (ms : List Md) (rs : List Rl) (p m a : Nat) (h : Hh) : Nat → Sl → Hh → Prop := fun mm σ h1 => ∃ n jk, (∀ i j, i < j → j < n → itn (goF ms rs) i (m, a) ≠ itn (goF ms rs) j (m, a)) ∧ (∀ j, j < n → armS ms (itn (goF ms rs) j (m, a)) = false) ∧ mm + n = sumW ms + 1 ∧
    σ = [some (.ref p), some (.int m), some (.int a), some (encA (itn (goF ms rs) n (m, a))), some (.ref jk)] ∧ Same h h1 [] ∧ h.length ≤ jk ∧ h1[jk]? = some (.dct (encKV encA .bl (tillKv ms rs (m, a) n)))
section
variable {X : Ex} {k : Nat} {h : Hh} {Q : D → Hh → Prop}
theorem till_armed_ok {p m a : Nat} {ms : List Md} {rs : List Rl} (hp : h[p]? = some (O_Panel (.tup (ms.map encM)) (.tup (rs.map encR)))) (v : VP ms rs) (vs : ValidS ms (m, a)) (sm : sumW ms < 900000)
    (q : ∀ h1 r, Same h h1 [] → Till (goF ms rs) (armS ms) (m, a) r → Q (encO r) h1) : Wk X Q (fnAt P (k + 2) F_Panel_till_armed [.ref p, .int m, .int a] h) := by
  rw [r_Panel_till_armed]
  unfold T_Panel_till_armed
  simp -dsimp -failIfUnchanged only [↓wsq_n, ↓wsq_r, ↓wfin_n, ↓wfin_r, ↓ws_nil, ↓ws_cons, ↓ws_expr, ↓ws_set, ↓ws_ret, ↓ws_iff, ↓ws_pass, ↓ws_fb, ↓ws_for, ↓ws_while, ↓ws_wc, ↓ws_wb, ↓wt_tup, ↓wt_nil, ↓wt_cons, ↓wt_sub, ↓wt_fld, ↓we_slot, ↓we_lit, ↓we_op, ↓we_cmp, ↓we_chain, ↓we_nt, ↓we_neg, ↓we_an, ↓we_orr, ↓we_ite, ↓we_tup, ↓we_lst, ↓we_dct, ↓we_sub, ↓we_slc, ↓we_rev, ↓we_fld, ↓we_call, ↓wmk_n, ↓we_mk, ↓we_meth, ↓we_blt, ↓we_bm, ↓we_lc, ↓wes_nil, ↓wes_cons, ↓wes_star, ↓wts_nil, ↓wts_cons, ↓wo_none, ↓wo_some, ↓wi_e, ↓wi_r1, ↓wi_r2, ↓wi_enum, ↓wi_enumS, ↓wi_zip, ↓wnx_n, ↓wnx_r, ↓blq, ↓v_kindS, ↓wb_join, ↓wb_app, ↓wb_pop, ↓wb_ext, ↓wo_lift, ↓x_name, ↓x_lb, ↓x_aug, ↓x_isi, ↓v_isI, ↓v_isB, ↓v_isS, ↓v_isT, ↓v_lenT, ↓v_int, ↓v_max2, ↓v_all, ↓v_any, ↓v_tupL, ↓v_disp0, ↓wk_ok, ↓wo_s, ↓wp_s, ↓wi_i, ↓v_slot0, ↓v_slotS, ↓ss_0, ↓ss_S, ↓sr_n, ↓sr_c, ↓sw_n, ↓sw_c, ↓v_opI, ↓v_add, ↓v_sub, ↓v_tr, ↓v_trO, ↓wf_t, ↓wf_f, ↓v_ix0, ↓v_ix1, ↓v_ix2, ↓v_ix3, ↓v_ix4, ↓v_ix5, ↓v_src, ↓v_perm, ↓wn_0, ↓wn_S, ↓wn_a0, ↓wn_aS, ↓wn_an, ↓dr_n, ↓dr_c, ↓wr_n, ↓wr_c, c_eqI, c_neI, c_ltI, c_gtI, c_leI, c_geI, d_ltI, d_gtI, d_leI, d_geI, c_isN, c_isntN, kindS, items_tup, true_and, and_true, ln_0, ln_1, ln_2, ln_3, ln_4, ln_5, ln_6, ln_7, ln_8, ln_9, ln_10, ln_11, ln_12, ln_13, ln_14, ln_15, ln_16, ln_17, ln_18, ln_19, ln_20]
  refine w_while (tillI ms rs p m a h) ?_ (sumW ms + 1) (by show _ < 1000000; omega) ⟨0, h.length, by omega, by omega, rfl, rfl, same_new, Nat.le_refl _, new_get⟩
  rintro mm σ h1 ⟨n, jk, dist, arm, cnt, rfl, s1, lj, g⟩
  have vn := valid_itn v vs n
  have hp1 := s1.get0 hp
  have hin : inD h1 (encA (itn (goF ms rs) n (m, a))) (.ref jk) = some (lookA (itn (goF ms rs) n (m, a)) (tillKv ms rs (m, a) n)).isSome := in_dct encA_inj encA_key g
  have kmap : (tillKv ms rs (m, a) n).map (·.1) = (List.range n).map fun j => itn (goF ms rs) j (m, a) := by simp [tillKv, Function.comp_def]
  simp -dsimp -failIfUnchanged only [↓wsq_n, ↓wsq_r, ↓wfin_n, ↓wfin_r, ↓ws_nil, ↓ws_cons, ↓ws_expr, ↓ws_set, ↓ws_ret, ↓ws_iff, ↓ws_pass, ↓ws_fb, ↓ws_for, ↓ws_while, ↓ws_wc, ↓ws_wb, ↓wt_tup, ↓wt_nil, ↓wt_cons, ↓wt_sub, ↓wt_fld, ↓we_slot, ↓we_lit, ↓we_op, ↓we_cmp, ↓we_chain, ↓we_nt, ↓we_neg, ↓we_an, ↓we_orr, ↓we_ite, ↓we_tup, ↓we_lst, ↓we_dct, ↓we_sub, ↓we_slc, ↓we_rev, ↓we_fld, ↓we_call, ↓wmk_n, ↓we_mk, ↓we_meth, ↓we_blt, ↓we_bm, ↓we_lc, ↓wes_nil, ↓wes_cons, ↓wes_star, ↓wts_nil, ↓wts_cons, ↓wo_none, ↓wo_some, ↓wi_e, ↓wi_r1, ↓wi_r2, ↓wi_enum, ↓wi_enumS, ↓wi_zip, ↓wnx_n, ↓wnx_r, ↓blq, ↓v_kindS, ↓wb_join, ↓wb_app, ↓wb_pop, ↓wb_ext, ↓wo_lift, ↓x_name, ↓x_lb, ↓x_aug, ↓x_isi, ↓v_isI, ↓v_isB, ↓v_isS, ↓v_isT, ↓v_lenT, ↓v_int, ↓v_max2, ↓v_all, ↓v_any, ↓v_tupL, ↓v_disp0, ↓wk_ok, ↓wo_s, ↓wp_s, ↓wi_i, ↓v_slot0, ↓v_slotS, ↓ss_0, ↓ss_S, ↓sr_n, ↓sr_c, ↓sw_n, ↓sw_c, ↓v_opI, ↓v_add, ↓v_sub, ↓v_tr, ↓v_trO, ↓wf_t, ↓wf_f, ↓v_ix0, ↓v_ix1, ↓v_ix2, ↓v_ix3, ↓v_ix4, ↓v_ix5, ↓v_src, ↓v_perm, ↓wn_0, ↓wn_S, ↓wn_a0, ↓wn_aS, ↓wn_an, ↓dr_n, ↓dr_c, ↓wr_n, ↓wr_c, c_eqI, c_neI, c_ltI, c_gtI, c_leI, c_geI, d_ltI, d_gtI, d_leI, d_geI, c_isN, c_isntN, kindS, items_tup, true_and, and_true, ln_0, ln_1, ln_2, ln_3, ln_4, ln_5, ln_6, ln_7, ln_8, ln_9, ln_10, ln_11, ln_12, ln_13, ln_14, ln_15, ln_16, ln_17, ln_18, ln_19, ln_20, c_nin rfl hin]
  refine wf_i (fun e => ?_) (fun e => ?_)
  · have nin : itn (goF ms rs) n (m, a) ∉ (tillKv ms rs (m, a) n).map (·.1) := by
      rw [← lookA_none]
      cases hl : lookA (itn (goF ms rs) n (m, a)) (tillKv ms rs (m, a) n) with
      | none => rfl
      | some b => rw [hl] at e; exact absurd e (by simp)
    have neq : ∀ i, i < n → itn (goF ms rs) i (m, a) ≠ itn (goF ms rs) n (m, a) := fun i hi z => nin (by rw [kmap, ← z]; exact List.mem_map.mpr ⟨i, by simpa using hi, rfl⟩)
    have dist' : ∀ i j, i < j → j < n + 1 → itn (goF ms rs) i (m, a) ≠ itn (goF ms rs) j (m, a) := fun i j l1 l2 => by
      by_cases e : j = n
      · subst e; exact neq i l1
      · exact dist i j l1 (by omega)
    have ln : n + 1 ≤ sumW ms := by
      rw [← len_allS]
      have nd : ((List.range (n + 1)).map fun j => itn (goF ms rs) j (m, a)).Nodup := by
        rw [List.Nodup, List.pairwise_map, List.pairwise_iff_getElem]
        intro i j hi hj l
        simp only [List.length_range] at hi hj
        simpa using dist' i j l hj
      have := nodup_le nd (r := allS ms) fun x hx => by
        obtain ⟨j, _, rfl⟩ := List.mem_map.mp hx
        exact mem_allS.mpr (valid_itn v vs j)
      simpa using this
    generalize hc : itn (goF ms rs) n (m, a) = c at *
    obtain ⟨cm, ca⟩ := c
    obtain ⟨md, emd, lmd⟩ := vn
    simp only at emd lmd
    have sub1 : subD h1 (.tup (ms.map encM)) (.int (cm : Nat)) = some (encM md) := by rw [sub_nat, List.getElem?_map, emd]; rfl
    simp -dsimp -failIfUnchanged only [↓wsq_n, ↓wsq_r, ↓wfin_n, ↓wfin_r, ↓ws_nil, ↓ws_cons, ↓ws_expr, ↓ws_set, ↓ws_ret, ↓ws_iff, ↓ws_pass, ↓ws_fb, ↓ws_for, ↓ws_while, ↓ws_wc, ↓ws_wb, ↓wt_tup, ↓wt_nil, ↓wt_cons, ↓wt_sub, ↓wt_fld, ↓we_slot, ↓we_lit, ↓we_op, ↓we_cmp, ↓we_chain, ↓we_nt, ↓we_neg, ↓we_an, ↓we_orr, ↓we_ite, ↓we_tup, ↓we_lst, ↓we_dct, ↓we_sub, ↓we_slc, ↓we_rev, ↓we_fld, ↓we_call, ↓wmk_n, ↓we_mk, ↓we_meth, ↓we_blt, ↓we_bm, ↓we_lc, ↓wes_nil, ↓wes_cons, ↓wes_star, ↓wts_nil, ↓wts_cons, ↓wo_none, ↓wo_some, ↓wi_e, ↓wi_r1, ↓wi_r2, ↓wi_enum, ↓wi_enumS, ↓wi_zip, ↓wnx_n, ↓wnx_r, ↓blq, ↓v_kindS, ↓wb_join, ↓wb_app, ↓wb_pop, ↓wb_ext, ↓wo_lift, ↓x_name, ↓x_lb, ↓x_aug, ↓x_isi, ↓v_isI, ↓v_isB, ↓v_isS, ↓v_isT, ↓v_lenT, ↓v_int, ↓v_max2, ↓v_all, ↓v_any, ↓v_tupL, ↓v_disp0, ↓wk_ok, ↓wo_s, ↓wp_s, ↓wi_i, ↓v_slot0, ↓v_slotS, ↓ss_0, ↓ss_S, ↓sr_n, ↓sr_c, ↓sw_n, ↓sw_c, ↓v_opI, ↓v_add, ↓v_sub, ↓v_tr, ↓v_trO, ↓wf_t, ↓wf_f, ↓v_ix0, ↓v_ix1, ↓v_ix2, ↓v_ix3, ↓v_ix4, ↓v_ix5, ↓v_src, ↓v_perm, ↓wn_0, ↓wn_S, ↓wn_a0, ↓wn_aS, ↓wn_an, ↓dr_n, ↓dr_c, ↓wr_n, ↓wr_c, c_eqI, c_neI, c_ltI, c_gtI, c_leI, c_geI, d_ltI, d_gtI, d_leI, d_geI, c_isN, c_isntN, kindS, items_tup, true_and, and_true, ln_0, ln_1, ln_2, ln_3, ln_4, ln_5, ln_6, ln_7, ln_8, ln_9, ln_10, ln_11, ln_12, ln_13, ln_14, ln_15, ln_16, ln_17, ln_18, ln_19, ln_20, encA, a_Panel_modes hp1, sub1, encM]
    refine wf_i (fun ea => ?_) (fun ea => ?_)
    · simp -dsimp -failIfUnchanged only [↓wsq_n, ↓wsq_r, ↓wfin_n, ↓wfin_r, ↓ws_nil, ↓ws_cons, ↓ws_expr, ↓ws_set, ↓ws_ret, ↓ws_iff, ↓ws_pass, ↓ws_fb, ↓ws_for, ↓ws_while, ↓ws_wc, ↓ws_wb, ↓wt_tup, ↓wt_nil, ↓wt_cons, ↓wt_sub, ↓wt_fld, ↓we_slot, ↓we_lit, ↓we_op, ↓we_cmp, ↓we_chain, ↓we_nt, ↓we_neg, ↓we_an, ↓we_orr, ↓we_ite, ↓we_tup, ↓we_lst, ↓we_dct, ↓we_sub, ↓we_slc, ↓we_rev, ↓we_fld, ↓we_call, ↓wmk_n, ↓we_mk, ↓we_meth, ↓we_blt, ↓we_bm, ↓we_lc, ↓wes_nil, ↓wes_cons, ↓wes_star, ↓wts_nil, ↓wts_cons, ↓wo_none, ↓wo_some, ↓wi_e, ↓wi_r1, ↓wi_r2, ↓wi_enum, ↓wi_enumS, ↓wi_zip, ↓wnx_n, ↓wnx_r, ↓blq, ↓v_kindS, ↓wb_join, ↓wb_app, ↓wb_pop, ↓wb_ext, ↓wo_lift, ↓x_name, ↓x_lb, ↓x_aug, ↓x_isi, ↓v_isI, ↓v_isB, ↓v_isS, ↓v_isT, ↓v_lenT, ↓v_int, ↓v_max2, ↓v_all, ↓v_any, ↓v_tupL, ↓v_disp0, ↓wk_ok, ↓wo_s, ↓wp_s, ↓wi_i, ↓v_slot0, ↓v_slotS, ↓ss_0, ↓ss_S, ↓sr_n, ↓sr_c, ↓sw_n, ↓sw_c, ↓v_opI, ↓v_add, ↓v_sub, ↓v_tr, ↓v_trO, ↓wf_t, ↓wf_f, ↓v_ix0, ↓v_ix1, ↓v_ix2, ↓v_ix3, ↓v_ix4, ↓v_ix5, ↓v_src, ↓v_perm, ↓wn_0, ↓wn_S, ↓wn_a0, ↓wn_aS, ↓wn_an, ↓dr_n, ↓dr_c, ↓wr_n, ↓wr_c, c_eqI, c_neI, c_ltI, c_gtI, c_leI, c_geI, d_ltI, d_gtI, d_leI, d_geI, c_isN, c_isntN, kindS, items_tup, true_and, and_true, ln_0, ln_1, ln_2, ln_3, ln_4, ln_5, ln_6, ln_7, ln_8, ln_9, ln_10, ln_11, ln_12, ln_13, ln_14, ln_15, ln_16, ln_17, ln_18, ln_19, ln_20, len_dct g]
      have : (encKV encA D.bl (tillKv ms rs (m, a) n)).length = n := by simp [encKV, tillKv]
      rw [this]
      refine q h1 (some n) s1 ⟨?_, arm⟩
      rw [hc]
      simp only [armS, emd, ea]
    · have sd := set_dct (ek := encA) (ev := D.bl) (k := (cm, ca)) (v := true) encA_inj encA_key (kvs := tillKv ms rs (m, a) n) (by simp [tillKv, maxLen]; omega) g
      simp only [encA] at sd
      have s2 := s1.set (c := .dct (encKV encA D.bl (putA (cm, ca) true (tillKv ms rs (m, a) n)))) (.inr lj)
      have hp2 := s2.get0 hp
      simp -dsimp -failIfUnchanged only [↓wsq_n, ↓wsq_r, ↓wfin_n, ↓wfin_r, ↓ws_nil, ↓ws_cons, ↓ws_expr, ↓ws_set, ↓ws_ret, ↓ws_iff, ↓ws_pass, ↓ws_fb, ↓ws_for, ↓ws_while, ↓ws_wc, ↓ws_wb, ↓wt_tup, ↓wt_nil, ↓wt_cons, ↓wt_sub, ↓wt_fld, ↓we_slot, ↓we_lit, ↓we_op, ↓we_cmp, ↓we_chain, ↓we_nt, ↓we_neg, ↓we_an, ↓we_orr, ↓we_ite, ↓we_tup, ↓we_lst, ↓we_dct, ↓we_sub, ↓we_slc, ↓we_rev, ↓we_fld, ↓we_call, ↓wmk_n, ↓we_mk, ↓we_meth, ↓we_blt, ↓we_bm, ↓we_lc, ↓wes_nil, ↓wes_cons, ↓wes_star, ↓wts_nil, ↓wts_cons, ↓wo_none, ↓wo_some, ↓wi_e, ↓wi_r1, ↓wi_r2, ↓wi_enum, ↓wi_enumS, ↓wi_zip, ↓wnx_n, ↓wnx_r, ↓blq, ↓v_kindS, ↓wb_join, ↓wb_app, ↓wb_pop, ↓wb_ext, ↓wo_lift, ↓x_name, ↓x_lb, ↓x_aug, ↓x_isi, ↓v_isI, ↓v_isB, ↓v_isS, ↓v_isT, ↓v_lenT, ↓v_int, ↓v_max2, ↓v_all, ↓v_any, ↓v_tupL, ↓v_disp0, ↓wk_ok, ↓wo_s, ↓wp_s, ↓wi_i, ↓v_slot0, ↓v_slotS, ↓ss_0, ↓ss_S, ↓sr_n, ↓sr_c, ↓sw_n, ↓sw_c, ↓v_opI, ↓v_add, ↓v_sub, ↓v_tr, ↓v_trO, ↓wf_t, ↓wf_f, ↓v_ix0, ↓v_ix1, ↓v_ix2, ↓v_ix3, ↓v_ix4, ↓v_ix5, ↓v_src, ↓v_perm, ↓wn_0, ↓wn_S, ↓wn_a0, ↓wn_aS, ↓wn_an, ↓dr_n, ↓dr_c, ↓wr_n, ↓wr_c, c_eqI, c_neI, c_ltI, c_gtI, c_leI, c_geI, d_ltI, d_gtI, d_leI, d_geI, c_isN, c_isntN, kindS, items_tup, true_and, and_true, ln_0, ln_1, ln_2, ln_3, ln_4, ln_5, ln_6, ln_7, ln_8, ln_9, ln_10, ln_11, ln_12, ln_13, ln_14, ln_15, ln_16, ln_17, ln_18, ln_19, ln_20, encA, sd, m_Panel_goes hp2]
      refine goes_ok hp2 (List.getElem?_eq_some_iff.mp emd).1 ?_
      simp -dsimp -failIfUnchanged only [↓wsq_n, ↓wsq_r, ↓wfin_n, ↓wfin_r, ↓ws_nil, ↓ws_cons, ↓ws_expr, ↓ws_set, ↓ws_ret, ↓ws_iff, ↓ws_pass, ↓ws_fb, ↓ws_for, ↓ws_while, ↓ws_wc, ↓ws_wb, ↓wt_tup, ↓wt_nil, ↓wt_cons, ↓wt_sub, ↓wt_fld, ↓we_slot, ↓we_lit, ↓we_op, ↓we_cmp, ↓we_chain, ↓we_nt, ↓we_neg, ↓we_an, ↓we_orr, ↓we_ite, ↓we_tup, ↓we_lst, ↓we_dct, ↓we_sub, ↓we_slc, ↓we_rev, ↓we_fld, ↓we_call, ↓wmk_n, ↓we_mk, ↓we_meth, ↓we_blt, ↓we_bm, ↓we_lc, ↓wes_nil, ↓wes_cons, ↓wes_star, ↓wts_nil, ↓wts_cons, ↓wo_none, ↓wo_some, ↓wi_e, ↓wi_r1, ↓wi_r2, ↓wi_enum, ↓wi_enumS, ↓wi_zip, ↓wnx_n, ↓wnx_r, ↓blq, ↓v_kindS, ↓wb_join, ↓wb_app, ↓wb_pop, ↓wb_ext, ↓wo_lift, ↓x_name, ↓x_lb, ↓x_aug, ↓x_isi, ↓v_isI, ↓v_isB, ↓v_isS, ↓v_isT, ↓v_lenT, ↓v_int, ↓v_max2, ↓v_all, ↓v_any, ↓v_tupL, ↓v_disp0, ↓wk_ok, ↓wo_s, ↓wp_s, ↓wi_i, ↓v_slot0, ↓v_slotS, ↓ss_0, ↓ss_S, ↓sr_n, ↓sr_c, ↓sw_n, ↓sw_c, ↓v_opI, ↓v_add, ↓v_sub, ↓v_tr, ↓v_trO, ↓wf_t, ↓wf_f, ↓v_ix0, ↓v_ix1, ↓v_ix2, ↓v_ix3, ↓v_ix4, ↓v_ix5, ↓v_src, ↓v_perm, ↓wn_0, ↓wn_S, ↓wn_a0, ↓wn_aS, ↓wn_an, ↓dr_n, ↓dr_c, ↓wr_n, ↓wr_c, c_eqI, c_neI, c_ltI, c_gtI, c_leI, c_geI, d_ltI, d_gtI, d_leI, d_geI, c_isN, c_isntN, kindS, items_tup, true_and, and_true, ln_0, ln_1, ln_2, ln_3, ln_4, ln_5, ln_6, ln_7, ln_8, ln_9, ln_10, ln_11, ln_12, ln_13, ln_14, ln_15, ln_16, ln_17, ln_18, ln_19, ln_20, nw_n]
      refine ⟨mm - 1, by omega, n + 1, jk, dist', fun j hj => ?_, by omega, ?_, s2, lj, ?_⟩
      · by_cases e : j = n
        · subst e
          rw [hc]
          simp only [armS, emd, ea]
        · exact arm j (by omega)
      · simp only [itn, hc]
        rfl
      · rw [putA_new nin]
        have : tillKv ms rs (m, a) (n + 1) = tillKv ms rs (m, a) n ++ [((cm, ca), true)] := by
          simp only [tillKv, List.range_succ, List.map_append, List.map_cons, List.map_nil, hc]
        rw [this]
        exact set_get g
  · simp -dsimp -failIfUnchanged only [↓wsq_n, ↓wsq_r, ↓wfin_n, ↓wfin_r, ↓ws_nil, ↓ws_cons, ↓ws_expr, ↓ws_set, ↓ws_ret, ↓ws_iff, ↓ws_pass, ↓ws_fb, ↓ws_for, ↓ws_while, ↓ws_wc, ↓ws_wb, ↓wt_tup, ↓wt_nil, ↓wt_cons, ↓wt_sub, ↓wt_fld, ↓we_slot, ↓we_lit, ↓we_op, ↓we_cmp, ↓we_chain, ↓we_nt, ↓we_neg, ↓we_an, ↓we_orr, ↓we_ite, ↓we_tup, ↓we_lst, ↓we_dct, ↓we_sub, ↓we_slc, ↓we_rev, ↓we_fld, ↓we_call, ↓wmk_n, ↓we_mk, ↓we_meth, ↓we_blt, ↓we_bm, ↓we_lc, ↓wes_nil, ↓wes_cons, ↓wes_star, ↓wts_nil, ↓wts_cons, ↓wo_none, ↓wo_some, ↓wi_e, ↓wi_r1, ↓wi_r2, ↓wi_enum, ↓wi_enumS, ↓wi_zip, ↓wnx_n, ↓wnx_r, ↓blq, ↓v_kindS, ↓wb_join, ↓wb_app, ↓wb_pop, ↓wb_ext, ↓wo_lift, ↓x_name, ↓x_lb, ↓x_aug, ↓x_isi, ↓v_isI, ↓v_isB, ↓v_isS, ↓v_isT, ↓v_lenT, ↓v_int, ↓v_max2, ↓v_all, ↓v_any, ↓v_tupL, ↓v_disp0, ↓wk_ok, ↓wo_s, ↓wp_s, ↓wi_i, ↓v_slot0, ↓v_slotS, ↓ss_0, ↓ss_S, ↓sr_n, ↓sr_c, ↓sw_n, ↓sw_c, ↓v_opI, ↓v_add, ↓v_sub, ↓v_tr, ↓v_trO, ↓wf_t, ↓wf_f, ↓v_ix0, ↓v_ix1, ↓v_ix2, ↓v_ix3, ↓v_ix4, ↓v_ix5, ↓v_src, ↓v_perm, ↓wn_0, ↓wn_S, ↓wn_a0, ↓wn_aS, ↓wn_an, ↓dr_n, ↓dr_c, ↓wr_n, ↓wr_c, c_eqI, c_neI, c_ltI, c_gtI, c_leI, c_geI, d_ltI, d_gtI, d_leI, d_geI, c_isN, c_isntN, kindS, items_tup, true_and, and_true, ln_0, ln_1, ln_2, ln_3, ln_4, ln_5, ln_6, ln_7, ln_8, ln_9, ln_10, ln_11, ln_12, ln_13, ln_14, ln_15, ln_16, ln_17, ln_18, ln_19, ln_20]
    refine q h1 none s1 ?_
    have hin : itn (goF ms rs) n (m, a) ∈ (tillKv ms rs (m, a) n).map (·.1) := by
      by_cases z : itn (goF ms rs) n (m, a) ∈ (tillKv ms rs (m, a) n).map (·.1)
      · exact z
      · rw [lookA_none.mpr z] at e
        exact absurd e (by simp)
    rw [kmap] at hin
    obtain ⟨i, hi, ei⟩ := List.mem_map.mp hin
    exact till_loop (List.mem_range.mp hi) ei.symm arm
theorem okM (m : Md) {n : Nat} : okN (n + 1) (encM m) = true := by
  simp only [encM, ok_tup, oks_cons, ok_bl, ok_int, oks_nil, Bool.and_self]
theorem okMs {ms : List Md} {n : Nat} : okNs (n + 1) (ms.map encM) = true := oks_all.mpr fun x hx => by
  obtain ⟨m, _, rfl⟩ := List.mem_map.mp hx
  exact okM m
theorem okMt {ms : List Md} {n : Nat} : okN (n + 2) (.tup (ms.map encM)) = true := by rw [ok_tup]; exact okMs
theorem okR {r : Rl} {n : Nat} : okN (n + 1) (encR r) = true := by
  simp only [encR, ok_tup, oks_cons, ok_int, oks_nil, Bool.and_true, Bool.true_and, ok_str]
theorem okRs {rs : List Rl} {n : Nat} : okNs (n + 1) (rs.map encR) = true := oks_all.mpr fun x hx => by
  obtain ⟨r, hr, rfl⟩ := List.mem_map.mp hx
  exact okR
theorem okRt {rs : List Rl} {n : Nat} : okN (n + 2) (.tup (rs.map encR)) = true := by rw [ok_tup]; exact okRs
/-- a panel is made -/
theorem Panel_made {ms : List Md} {rs : List Rl} (v : VP ms rs) (lx : ms.length < maxLen) (ly : rs.length < maxLen)
    (q : ∀ h1 i, Same h h1 [] → h.length ≤ i → h1[i]? = some (O_Panel (.tup (ms.map encM)) (.tup (rs.map encR))) → Q (.ref i) h1) : Wk X (MkQ Q h.length) (fnAt P (k + 4) F_Panel_init [.ref h.length, .tup (ms.map encM), .tup (rs.map encR)] (h ++ [.obj 0 []])) := by
  refine Panel_new (by simpa using lx) (by simpa using ly) okMt (by simpa using v.ne) ?_ ?_ ?_ q
  · simp only [List.all_map, List.all_eq_true, List.length_map]
    intro m hm
    have h1 := v.wait m hm
    have h2 := v.late m hm
    simp only [Function.comp_apply, encM, isModeB, isB, isNumB, isIxB, Bool.true_and, Bool.and_eq_true, decide_eq_true_eq]
    omega
  · simp only [List.all_map, List.all_eq_true, List.length_map]
    intro r hr
    have h1 := v.here r hr
    have h2 := v.next r hr
    have h3 := v.sig r hr
    simp only [Function.comp_apply, encR, isRuleB, isSigB, isIxB, Bool.true_and, Bool.and_eq_true, decide_eq_true_eq]
    omega
  · simp only [List.all_map, List.all_eq_true]
    intro r hr
    rfl
/-- the modes with another wait of one -/
def setW (ms : List Md) (m w : Nat) : List Md := match ms[m]? with
  | some md => ms.take m ++ ⟨md.armed, md.rings, w, md.late⟩ :: ms.drop (m + 1)
  | none => ms
theorem setW_len {ms : List Md} {m w : Nat} (l : m < ms.length) : (setW ms m w).length = ms.length := by
  simp only [setW, List.getElem?_eq_getElem l, List.length_append, List.length_take, List.length_cons, List.length_drop]
  omega
theorem setW_vp {ms : List Md} {rs : List Rl} {m w : Nat} (v : VP ms rs) (l : m < ms.length) (lw : w ≤ 99) : VP (setW ms m w) rs := by
  have hl := setW_len (w := w) l
  have key : ∀ x ∈ setW ms m w, (x.wait ≤ 99 ∧ x.late < ms.length) := by
    intro x hx
    simp only [setW, List.getElem?_eq_getElem l, List.mem_append, List.mem_cons] at hx
    rcases hx with hx | rfl | hx
    · exact ⟨v.wait x (List.mem_of_mem_take hx), v.late x (List.mem_of_mem_take hx)⟩
    · exact ⟨lw, v.late ms[m] (List.getElem_mem l)⟩
    · exact ⟨v.wait x (List.mem_of_mem_drop hx), v.late x (List.mem_of_mem_drop hx)⟩
  exact ⟨fun z => by rw [z] at hl; simp at hl; omega, fun x hx => hl ▸ (key x hx).2, fun r hr => hl ▸ v.next r hr, fun x hx => (key x hx).1, fun r hr => hl ▸ v.here r hr, v.sig⟩
theorem with_wait_ok {p m w : Nat} {ms : List Md} {rs : List Rl} (hp : h[p]? = some (O_Panel (.tup (ms.map encM)) (.tup (rs.map encR)))) (v : VP ms rs) (lm : m < ms.length) (lw : w ≤ 99) (lx : ms.length < maxLen) (ly : rs.length < maxLen)
    (q : ∀ h1 i, Same h h1 [] → h.length ≤ i → h1[i]? = some (O_Panel (.tup ((setW ms m w).map encM)) (.tup (rs.map encR))) → Q (.ref i) h1) : Wk X Q (fnAt P (k + 5) F_Panel_with_wait [.ref p, .int m, .int w] h) := by
  rw [r_Panel_with_wait]
  unfold T_Panel_with_wait
  have sub1 : subD h (.tup (ms.map encM)) (.int (m : Nat)) = some (encM ms[m]) := by rw [sub_nat, List.getElem?_map, List.getElem?_eq_getElem lm]; rfl
  have tn : ((m : Int) + 1).toNat = m + 1 := by omega
  simp -dsimp -failIfUnchanged only [↓wsq_n, ↓wsq_r, ↓wfin_n, ↓wfin_r, ↓ws_nil, ↓ws_cons, ↓ws_expr, ↓ws_set, ↓ws_ret, ↓ws_iff, ↓ws_pass, ↓ws_fb, ↓ws_for, ↓ws_while, ↓ws_wc, ↓ws_wb, ↓wt_tup, ↓wt_nil, ↓wt_cons, ↓wt_sub, ↓wt_fld, ↓we_slot, ↓we_lit, ↓we_op, ↓we_cmp, ↓we_chain, ↓we_nt, ↓we_neg, ↓we_an, ↓we_orr, ↓we_ite, ↓we_tup, ↓we_lst, ↓we_dct, ↓we_sub, ↓we_slc, ↓we_rev, ↓we_fld, ↓we_call, ↓wmk_n, ↓we_mk, ↓we_meth, ↓we_blt, ↓we_bm, ↓we_lc, ↓wes_nil, ↓wes_cons, ↓wes_star, ↓wts_nil, ↓wts_cons, ↓wo_none, ↓wo_some, ↓wi_e, ↓wi_r1, ↓wi_r2, ↓wi_enum, ↓wi_enumS, ↓wi_zip, ↓wnx_n, ↓wnx_r, ↓blq, ↓v_kindS, ↓wb_join, ↓wb_app, ↓wb_pop, ↓wb_ext, ↓wo_lift, ↓x_name, ↓x_lb, ↓x_aug, ↓x_isi, ↓v_isI, ↓v_isB, ↓v_isS, ↓v_isT, ↓v_lenT, ↓v_int, ↓v_max2, ↓v_all, ↓v_any, ↓v_tupL, ↓v_disp0, ↓wk_ok, ↓wo_s, ↓wp_s, ↓wi_i, ↓v_slot0, ↓v_slotS, ↓ss_0, ↓ss_S, ↓sr_n, ↓sr_c, ↓sw_n, ↓sw_c, ↓v_opI, ↓v_add, ↓v_sub, ↓v_tr, ↓v_trO, ↓wf_t, ↓wf_f, ↓v_ix0, ↓v_ix1, ↓v_ix2, ↓v_ix3, ↓v_ix4, ↓v_ix5, ↓v_src, ↓v_perm, ↓wn_0, ↓wn_S, ↓wn_a0, ↓wn_aS, ↓wn_an, ↓dr_n, ↓dr_c, ↓wr_n, ↓wr_c, c_eqI, c_neI, c_ltI, c_gtI, c_leI, c_geI, d_ltI, d_gtI, d_leI, d_geI, c_isN, c_isntN, kindS, items_tup, true_and, and_true, ln_0, ln_1, ln_2, ln_3, ln_4, ln_5, ln_6, ln_7, ln_8, ln_9, ln_10, ln_11, ln_12, ln_13, ln_14, ln_15, ln_16, ln_17, ln_18, ln_19, ln_20, a_Panel_modes hp, a_Panel_rules hp, sub1, encM, slc_to (Int.natCast_nonneg m), slc_from (show (0 : Int) ≤ (m : Int) + 1 by omega), Int.toNat_natCast, tn, ↓k_Panel]
  have e : (ms.map encM).take m ++ D.tup [.bl ms[m].armed, .bl ms[m].rings, .int w, .int ms[m].late] :: ((ms.map encM).drop (m + 1) ++ []) = (setW ms m w).map encM := by
    simp [setW, List.getElem?_eq_getElem lm, encM]
  rw [e]
  have hl := setW_len (w := w) lm
  refine ⟨by rw [List.length_map, hl]; omega, ?_⟩
  refine Panel_made (setW_vp v lm lw) (by omega) ly fun h1 i s1 l1 g1 => ?_
  simp -dsimp -failIfUnchanged only [↓wsq_n, ↓wsq_r, ↓wfin_n, ↓wfin_r, ↓ws_nil, ↓ws_cons, ↓ws_expr, ↓ws_set, ↓ws_ret, ↓ws_iff, ↓ws_pass, ↓ws_fb, ↓ws_for, ↓ws_while, ↓ws_wc, ↓ws_wb, ↓wt_tup, ↓wt_nil, ↓wt_cons, ↓wt_sub, ↓wt_fld, ↓we_slot, ↓we_lit, ↓we_op, ↓we_cmp, ↓we_chain, ↓we_nt, ↓we_neg, ↓we_an, ↓we_orr, ↓we_ite, ↓we_tup, ↓we_lst, ↓we_dct, ↓we_sub, ↓we_slc, ↓we_rev, ↓we_fld, ↓we_call, ↓wmk_n, ↓we_mk, ↓we_meth, ↓we_blt, ↓we_bm, ↓we_lc, ↓wes_nil, ↓wes_cons, ↓wes_star, ↓wts_nil, ↓wts_cons, ↓wo_none, ↓wo_some, ↓wi_e, ↓wi_r1, ↓wi_r2, ↓wi_enum, ↓wi_enumS, ↓wi_zip, ↓wnx_n, ↓wnx_r, ↓blq, ↓v_kindS, ↓wb_join, ↓wb_app, ↓wb_pop, ↓wb_ext, ↓wo_lift, ↓x_name, ↓x_lb, ↓x_aug, ↓x_isi, ↓v_isI, ↓v_isB, ↓v_isS, ↓v_isT, ↓v_lenT, ↓v_int, ↓v_max2, ↓v_all, ↓v_any, ↓v_tupL, ↓v_disp0, ↓wk_ok, ↓wo_s, ↓wp_s, ↓wi_i, ↓v_slot0, ↓v_slotS, ↓ss_0, ↓ss_S, ↓sr_n, ↓sr_c, ↓sw_n, ↓sw_c, ↓v_opI, ↓v_add, ↓v_sub, ↓v_tr, ↓v_trO, ↓wf_t, ↓wf_f, ↓v_ix0, ↓v_ix1, ↓v_ix2, ↓v_ix3, ↓v_ix4, ↓v_ix5, ↓v_src, ↓v_perm, ↓wn_0, ↓wn_S, ↓wn_a0, ↓wn_aS, ↓wn_an, ↓dr_n, ↓dr_c, ↓wr_n, ↓wr_c, c_eqI, c_neI, c_ltI, c_gtI, c_leI, c_geI, d_ltI, d_gtI, d_leI, d_geI, c_isN, c_isntN, kindS, items_tup, true_and, and_true, ln_0, ln_1, ln_2, ln_3, ln_4, ln_5, ln_6, ln_7, ln_8, ln_9, ln_10, ln_11, ln_12, ln_13, ln_14, ln_15, ln_16, ln_17, ln_18, ln_19, ln_20]
  exact q h1 i s1 l1 g1
end
end Lw
end
section
set_option autoImplicit false
set_option Elab.async false
set_option linter.all false
set_option maxRecDepth 8000
set_option maxHeartbeats 4000000
namespace Lw
open PySem Q Qw
section
variable {X : Ex} {k : Nat} {h : Hh} {Q : D → Hh → Prop} {i j : Nat}
theorem Ldeck_ok {x0 : Nat} {ns : List Int} (h0 : lstOf h (.ref x0) = some (ns.map .int)) (q : ∀ (h1 : Hh) (i j : Nat), Deck h1 i j → h.length ≤ i → h.length ≤ j → Same h h1 [] → Q (.ref i) h1) : Wk X Q (fnAt P (k + 1) F_Ldeck [.ref x0] h) := by
  rw [r_Ldeck]
  exact deck_ok (by decide) h0 fun σ h1 i j d a b s => q h1 i j d a b s
theorem Ldraw_ok {b : Int} (hb : 0 < b ∧ b < 1073741824) (d : Deck h i j) (q : ∀ (r : Nat) (h1 : Hh), (r : Int) < b → Deck h1 i j → Same h h1 [i, j] → Q (.int r) h1) : Wk X Q (fnAt P (k + 1) F_Ldraw [.ref i, .int b] h) := by
  rw [r_Ldraw]
  exact draw_ok (by decide) hb d fun r σ h1 l d1 s1 => q r h1 l d1 s1
theorem Lpick_ok {l : Nat} {xs : List D} (hl : lstOf h (.ref l) = some xs) (ne : xs ≠ []) (sm : xs.length < 1073741824) (d : Deck h i j) (li : l ≠ i) (lj : l ≠ j) (q : ∀ (x : D) (h1 : Hh), x ∈ xs → Deck h1 i j → Same h h1 [i, j] → Q x h1) : Wk X Q (fnAt P (k + 2) F_Lpick [.ref i, .ref l] h) := by
  rw [r_Lpick]
  unfold T_Lpick
  simp -dsimp -failIfUnchanged only [↓wsq_n, ↓wsq_r, ↓wfin_n, ↓wfin_r, ↓ws_nil, ↓ws_cons, ↓ws_expr, ↓ws_set, ↓ws_ret, ↓ws_iff, ↓ws_pass, ↓ws_fb, ↓ws_for, ↓ws_while, ↓ws_wc, ↓ws_wb, ↓wt_tup, ↓wt_nil, ↓wt_cons, ↓wt_sub, ↓wt_fld, ↓we_slot, ↓we_lit, ↓we_op, ↓we_cmp, ↓we_chain, ↓we_nt, ↓we_neg, ↓we_an, ↓we_orr, ↓we_ite, ↓we_tup, ↓we_lst, ↓we_dct, ↓we_sub, ↓we_slc, ↓we_rev, ↓we_fld, ↓we_call, ↓wmk_n, ↓we_mk, ↓we_meth, ↓we_blt, ↓we_bm, ↓we_lc, ↓wes_nil, ↓wes_cons, ↓wes_star, ↓wts_nil, ↓wts_cons, ↓wo_none, ↓wo_some, ↓wi_e, ↓wi_r1, ↓wi_r2, ↓wi_enum, ↓wi_enumS, ↓wi_zip, ↓wnx_n, ↓wnx_r, ↓blq, ↓v_kindS, ↓wb_join, ↓wb_app, ↓wb_pop, ↓wb_ext, ↓wo_lift, ↓x_name, ↓x_lb, ↓x_aug, ↓x_isi, ↓v_isI, ↓v_isB, ↓v_isS, ↓v_isT, ↓v_lenT, ↓v_int, ↓v_max2, ↓v_all, ↓v_any, ↓v_tupL, ↓v_disp0, ↓wk_ok, ↓wo_s, ↓wp_s, ↓wi_i, ↓v_slot0, ↓v_slotS, ↓ss_0, ↓ss_S, ↓sr_n, ↓sr_c, ↓sw_n, ↓sw_c, ↓v_opI, ↓v_add, ↓v_sub, ↓v_tr, ↓v_trO, ↓wf_t, ↓wf_f, ↓v_ix0, ↓v_ix1, ↓v_ix2, ↓v_ix3, ↓v_ix4, ↓v_ix5, ↓v_src, ↓v_perm, ↓wn_0, ↓wn_S, ↓wn_a0, ↓wn_aS, ↓wn_an, ↓dr_n, ↓dr_c, ↓wr_n, ↓wr_c, c_eqI, c_neI, c_ltI, c_gtI, c_leI, c_geI, d_ltI, d_gtI, d_leI, d_geI, c_isN, c_isntN, kindS, items_tup, true_and, and_true, ln_0, ln_1, ln_2, ln_3, ln_4, ln_5, ln_6, ln_7, ln_8, ln_9, ln_10, ln_11, ln_12, ln_13, ln_14, ln_15, ln_16, ln_17, ln_18, ln_19, ln_20, len_lst hl]
  have pos : 0 < xs.length := List.length_pos_iff.mpr ne
  refine Ldraw_ok (by omega) d fun r h1 lr d1 s1 => ?_
  have hl1 : lstOf h1 (.ref l) = some xs := by
    have ll : l < h.length := by
      simp only [lstOf] at hl
      cases g : h[l]? with
      | none => rw [g] at hl; simp at hl
      | some c => exact lt_of_get g
    simp only [lstOf, s1.2 l ll (by simp; omega)] at hl ⊢
    exact hl
  have lr' : r < xs.length := by omega
  simp -dsimp -failIfUnchanged only [↓wsq_n, ↓wsq_r, ↓wfin_n, ↓wfin_r, ↓ws_nil, ↓ws_cons, ↓ws_expr, ↓ws_set, ↓ws_ret, ↓ws_iff, ↓ws_pass, ↓ws_fb, ↓ws_for, ↓ws_while, ↓ws_wc, ↓ws_wb, ↓wt_tup, ↓wt_nil, ↓wt_cons, ↓wt_sub, ↓wt_fld, ↓we_slot, ↓we_lit, ↓we_op, ↓we_cmp, ↓we_chain, ↓we_nt, ↓we_neg, ↓we_an, ↓we_orr, ↓we_ite, ↓we_tup, ↓we_lst, ↓we_dct, ↓we_sub, ↓we_slc, ↓we_rev, ↓we_fld, ↓we_call, ↓wmk_n, ↓we_mk, ↓we_meth, ↓we_blt, ↓we_bm, ↓we_lc, ↓wes_nil, ↓wes_cons, ↓wes_star, ↓wts_nil, ↓wts_cons, ↓wo_none, ↓wo_some, ↓wi_e, ↓wi_r1, ↓wi_r2, ↓wi_enum, ↓wi_enumS, ↓wi_zip, ↓wnx_n, ↓wnx_r, ↓blq, ↓v_kindS, ↓wb_join, ↓wb_app, ↓wb_pop, ↓wb_ext, ↓wo_lift, ↓x_name, ↓x_lb, ↓x_aug, ↓x_isi, ↓v_isI, ↓v_isB, ↓v_isS, ↓v_isT, ↓v_lenT, ↓v_int, ↓v_max2, ↓v_all, ↓v_any, ↓v_tupL, ↓v_disp0, ↓wk_ok, ↓wo_s, ↓wp_s, ↓wi_i, ↓v_slot0, ↓v_slotS, ↓ss_0, ↓ss_S, ↓sr_n, ↓sr_c, ↓sw_n, ↓sw_c, ↓v_opI, ↓v_add, ↓v_sub, ↓v_tr, ↓v_trO, ↓wf_t, ↓wf_f, ↓v_ix0, ↓v_ix1, ↓v_ix2, ↓v_ix3, ↓v_ix4, ↓v_ix5, ↓v_src, ↓v_perm, ↓wn_0, ↓wn_S, ↓wn_a0, ↓wn_aS, ↓wn_an, ↓dr_n, ↓dr_c, ↓wr_n, ↓wr_c, c_eqI, c_neI, c_ltI, c_gtI, c_leI, c_geI, d_ltI, d_gtI, d_leI, d_geI, c_isN, c_isntN, kindS, items_tup, true_and, and_true, ln_0, ln_1, ln_2, ln_3, ln_4, ln_5, ln_6, ln_7, ln_8, ln_9, ln_10, ln_11, ln_12, ln_13, ln_14, ln_15, ln_16, ln_17, ln_18, ln_19, ln_20, sub_lst hl1, List.getElem?_eq_getElem lr']
  exact q _ _ (List.getElem_mem lr') d1 s1
theorem Lsome_ok {c : Nat} {b : Int} (hc : c ≤ 1000000) (hb : 0 < b ∧ b < 1073741824) (d : Deck h i j) (q : ∀ (ys : List Nat) (h1 : Hh), ys.Sublist (List.range c) → Deck h1 i j → Same h h1 [i, j] → Q (.tup (ys.map natD)) h1) : Wk X Q (fnAt P (k + 2) F_Lsome [.ref i, .int c, .int b] h) := by
  rw [r_Lsome]
  unfold T_Lsome
  simp -dsimp -failIfUnchanged only [↓wsq_n, ↓wsq_r, ↓wfin_n, ↓wfin_r, ↓ws_nil, ↓ws_cons, ↓ws_expr, ↓ws_set, ↓ws_ret, ↓ws_iff, ↓ws_pass, ↓ws_fb, ↓ws_for, ↓ws_while, ↓ws_wc, ↓ws_wb, ↓wt_tup, ↓wt_nil, ↓wt_cons, ↓wt_sub, ↓wt_fld, ↓we_slot, ↓we_lit, ↓we_op, ↓we_cmp, ↓we_chain, ↓we_nt, ↓we_neg, ↓we_an, ↓we_orr, ↓we_ite, ↓we_tup, ↓we_lst, ↓we_dct, ↓we_sub, ↓we_slc, ↓we_rev, ↓we_fld, ↓we_call, ↓wmk_n, ↓we_mk, ↓we_meth, ↓we_blt, ↓we_bm, ↓we_lc, ↓wes_nil, ↓wes_cons, ↓wes_star, ↓wts_nil, ↓wts_cons, ↓wo_none, ↓wo_some, ↓wi_e, ↓wi_r1, ↓wi_r2, ↓wi_enum, ↓wi_enumS, ↓wi_zip, ↓wnx_n, ↓wnx_r, ↓blq, ↓v_kindS, ↓wb_join, ↓wb_app, ↓wb_pop, ↓wb_ext, ↓wo_lift, ↓x_name, ↓x_lb, ↓x_aug, ↓x_isi, ↓v_isI, ↓v_isB, ↓v_isS, ↓v_isT, ↓v_lenT, ↓v_int, ↓v_max2, ↓v_all, ↓v_any, ↓v_tupL, ↓v_disp0, ↓wk_ok, ↓wo_s, ↓wp_s, ↓wi_i, ↓v_slot0, ↓v_slotS, ↓ss_0, ↓ss_S, ↓sr_n, ↓sr_c, ↓sw_n, ↓sw_c, ↓v_opI, ↓v_add, ↓v_sub, ↓v_tr, ↓v_trO, ↓wf_t, ↓wf_f, ↓v_ix0, ↓v_ix1, ↓v_ix2, ↓v_ix3, ↓v_ix4, ↓v_ix5, ↓v_src, ↓v_perm, ↓wn_0, ↓wn_S, ↓wn_a0, ↓wn_aS, ↓wn_an, ↓dr_n, ↓dr_c, ↓wr_n, ↓wr_c, c_eqI, c_neI, c_ltI, c_gtI, c_leI, c_geI, d_ltI, d_gtI, d_leI, d_geI, c_isN, c_isntN, kindS, items_tup, true_and, and_true, ln_0, ln_1, ln_2, ln_3, ln_4, ln_5, ln_6, ln_7, ln_8, ln_9, ln_10, ln_11, ln_12, ln_13, ln_14, ln_15, ln_16, ln_17, ln_18, ln_19, ln_20]
  refine ⟨by simp [okRange]; omega, ?_⟩
  refine w_comp natD (List.range c) (fun a r acc h1 => Deck h1 i j ∧ Same h h1 [i, j] ∧ ∃ ys : List Nat, acc = ys.map natD ∧ ys.Sublist a) (fun a r acc h1 e z => at_range) ?_ ?_ ⟨d, Same.refl, [], rfl, List.Sublist.refl _⟩
  · rintro a x r acc h1 e ⟨d1, s1, ys, rfl, sub⟩
    simp -dsimp -failIfUnchanged only [↓wsq_n, ↓wsq_r, ↓wfin_n, ↓wfin_r, ↓ws_nil, ↓ws_cons, ↓ws_expr, ↓ws_set, ↓ws_ret, ↓ws_iff, ↓ws_pass, ↓ws_fb, ↓ws_for, ↓ws_while, ↓ws_wc, ↓ws_wb, ↓wt_tup, ↓wt_nil, ↓wt_cons, ↓wt_sub, ↓wt_fld, ↓we_slot, ↓we_lit, ↓we_op, ↓we_cmp, ↓we_chain, ↓we_nt, ↓we_neg, ↓we_an, ↓we_orr, ↓we_ite, ↓we_tup, ↓we_lst, ↓we_dct, ↓we_sub, ↓we_slc, ↓we_rev, ↓we_fld, ↓we_call, ↓wmk_n, ↓we_mk, ↓we_meth, ↓we_blt, ↓we_bm, ↓we_lc, ↓wes_nil, ↓wes_cons, ↓wes_star, ↓wts_nil, ↓wts_cons, ↓wo_none, ↓wo_some, ↓wi_e, ↓wi_r1, ↓wi_r2, ↓wi_enum, ↓wi_enumS, ↓wi_zip, ↓wnx_n, ↓wnx_r, ↓blq, ↓v_kindS, ↓wb_join, ↓wb_app, ↓wb_pop, ↓wb_ext, ↓wo_lift, ↓x_name, ↓x_lb, ↓x_aug, ↓x_isi, ↓v_isI, ↓v_isB, ↓v_isS, ↓v_isT, ↓v_lenT, ↓v_int, ↓v_max2, ↓v_all, ↓v_any, ↓v_tupL, ↓v_disp0, ↓wk_ok, ↓wo_s, ↓wp_s, ↓wi_i, ↓v_slot0, ↓v_slotS, ↓ss_0, ↓ss_S, ↓sr_n, ↓sr_c, ↓sw_n, ↓sw_c, ↓v_opI, ↓v_add, ↓v_sub, ↓v_tr, ↓v_trO, ↓wf_t, ↓wf_f, ↓v_ix0, ↓v_ix1, ↓v_ix2, ↓v_ix3, ↓v_ix4, ↓v_ix5, ↓v_src, ↓v_perm, ↓wn_0, ↓wn_S, ↓wn_a0, ↓wn_aS, ↓wn_an, ↓dr_n, ↓dr_c, ↓wr_n, ↓wr_c, c_eqI, c_neI, c_ltI, c_gtI, c_leI, c_geI, d_ltI, d_gtI, d_leI, d_geI, c_isN, c_isntN, kindS, items_tup, true_and, and_true, ln_0, ln_1, ln_2, ln_3, ln_4, ln_5, ln_6, ln_7, ln_8, ln_9, ln_10, ln_11, ln_12, ln_13, ln_14, ln_15, ln_16, ln_17, ln_18, ln_19, ln_20]
    refine Ldraw_ok hb d1 fun n h2 ln d2 s2 => ?_
    ((try simp -dsimp -failIfUnchanged only [↓wsq_n, ↓wsq_r, ↓wfin_n, ↓wfin_r, ↓ws_nil, ↓ws_cons, ↓ws_expr, ↓ws_set, ↓ws_ret, ↓ws_iff, ↓ws_pass, ↓ws_fb, ↓ws_for, ↓ws_while, ↓ws_wc, ↓ws_wb, ↓wt_tup, ↓wt_nil, ↓wt_cons, ↓wt_sub, ↓wt_fld, ↓we_slot, ↓we_lit, ↓we_op, ↓we_cmp, ↓we_chain, ↓we_nt, ↓we_neg, ↓we_an, ↓we_orr, ↓we_ite, ↓we_tup, ↓we_lst, ↓we_dct, ↓we_sub, ↓we_slc, ↓we_rev, ↓we_fld, ↓we_call, ↓wmk_n, ↓we_mk, ↓we_meth, ↓we_blt, ↓we_bm, ↓we_lc, ↓wes_nil, ↓wes_cons, ↓wes_star, ↓wts_nil, ↓wts_cons, ↓wo_none, ↓wo_some, ↓wi_e, ↓wi_r1, ↓wi_r2, ↓wi_enum, ↓wi_enumS, ↓wi_zip, ↓wnx_n, ↓wnx_r, ↓blq, ↓v_kindS, ↓wb_join, ↓wb_app, ↓wb_pop, ↓wb_ext, ↓wo_lift, ↓x_name, ↓x_lb, ↓x_aug, ↓x_isi, ↓v_isI, ↓v_isB, ↓v_isS, ↓v_isT, ↓v_lenT, ↓v_int, ↓v_max2, ↓v_all, ↓v_any, ↓v_tupL, ↓v_disp0, ↓wk_ok, ↓wo_s, ↓wp_s, ↓wi_i, ↓v_slot0, ↓v_slotS, ↓ss_0, ↓ss_S, ↓sr_n, ↓sr_c, ↓sw_n, ↓sw_c, ↓v_opI, ↓v_add, ↓v_sub, ↓v_tr, ↓v_trO, ↓wf_t, ↓wf_f, ↓v_ix0, ↓v_ix1, ↓v_ix2, ↓v_ix3, ↓v_ix4, ↓v_ix5, ↓v_src, ↓v_perm, ↓wn_0, ↓wn_S, ↓wn_a0, ↓wn_aS, ↓wn_an, ↓dr_n, ↓dr_c, ↓wr_n, ↓wr_c, c_eqI, c_neI, c_ltI, c_gtI, c_leI, c_geI, d_ltI, d_gtI, d_leI, d_geI, c_isN, c_isntN, kindS, items_tup, true_and, and_true, ln_0, ln_1, ln_2, ln_3, ln_4, ln_5, ln_6, ln_7, ln_8, ln_9, ln_10, ln_11, ln_12, ln_13, ln_14, ln_15, ln_16, ln_17, ln_18, ln_19, ln_20, no_s, no_n]); (repeat' (refine wf_i (fun hz => ?_) (fun hz => ?_) <;> (try simp -dsimp -failIfUnchanged only [↓wsq_n, ↓wsq_r, ↓wfin_n, ↓wfin_r, ↓ws_nil, ↓ws_cons, ↓ws_expr, ↓ws_set, ↓ws_ret, ↓ws_iff, ↓ws_pass, ↓ws_fb, ↓ws_for, ↓ws_while, ↓ws_wc, ↓ws_wb, ↓wt_tup, ↓wt_nil, ↓wt_cons, ↓wt_sub, ↓wt_fld, ↓we_slot, ↓we_lit, ↓we_op, ↓we_cmp, ↓we_chain, ↓we_nt, ↓we_neg, ↓we_an, ↓we_orr, ↓we_ite, ↓we_tup, ↓we_lst, ↓we_dct, ↓we_sub, ↓we_slc, ↓we_rev, ↓we_fld, ↓we_call, ↓wmk_n, ↓we_mk, ↓we_meth, ↓we_blt, ↓we_bm, ↓we_lc, ↓wes_nil, ↓wes_cons, ↓wes_star, ↓wts_nil, ↓wts_cons, ↓wo_none, ↓wo_some, ↓wi_e, ↓wi_r1, ↓wi_r2, ↓wi_enum, ↓wi_enumS, ↓wi_zip, ↓wnx_n, ↓wnx_r, ↓blq, ↓v_kindS, ↓wb_join, ↓wb_app, ↓wb_pop, ↓wb_ext, ↓wo_lift, ↓x_name, ↓x_lb, ↓x_aug, ↓x_isi, ↓v_isI, ↓v_isB, ↓v_isS, ↓v_isT, ↓v_lenT, ↓v_int, ↓v_max2, ↓v_all, ↓v_any, ↓v_tupL, ↓v_disp0, ↓wk_ok, ↓wo_s, ↓wp_s, ↓wi_i, ↓v_slot0, ↓v_slotS, ↓ss_0, ↓ss_S, ↓sr_n, ↓sr_c, ↓sw_n, ↓sw_c, ↓v_opI, ↓v_add, ↓v_sub, ↓v_tr, ↓v_trO, ↓wf_t, ↓wf_f, ↓v_ix0, ↓v_ix1, ↓v_ix2, ↓v_ix3, ↓v_ix4, ↓v_ix5, ↓v_src, ↓v_perm, ↓wn_0, ↓wn_S, ↓wn_a0, ↓wn_aS, ↓wn_an, ↓dr_n, ↓dr_c, ↓wr_n, ↓wr_c, c_eqI, c_neI, c_ltI, c_gtI, c_leI, c_geI, d_ltI, d_gtI, d_leI, d_geI, c_isN, c_isntN, kindS, items_tup, true_and, and_true, ln_0, ln_1, ln_2, ln_3, ln_4, ln_5, ln_6, ln_7, ln_8, ln_9, ln_10, ln_11, ln_12, ln_13, ln_14, ln_15, ln_16, ln_17, ln_18, ln_19, ln_20, no_s, no_n, hz]))); (all_goals (try simp only [decide_eq_true_eq, decide_eq_false_iff_not] at *)))
    · exact ⟨d2, s1.trans s2, ys ++ [x], by simp, sub.append (List.Sublist.refl _)⟩
    · exact ⟨d2, s1.trans s2, ys, rfl, sub.trans (List.sublist_append_left _ _)⟩
  · rintro acc h1 ⟨d1, s1, ys, rfl, sub⟩
    have l1 := sub.length_le
    simp only [List.length_range] at l1
    refine ⟨by simp [maxLen]; omega, ?_⟩
    simp -dsimp -failIfUnchanged only [↓wsq_n, ↓wsq_r, ↓wfin_n, ↓wfin_r, ↓ws_nil, ↓ws_cons, ↓ws_expr, ↓ws_set, ↓ws_ret, ↓ws_iff, ↓ws_pass, ↓ws_fb, ↓ws_for, ↓ws_while, ↓ws_wc, ↓ws_wb, ↓wt_tup, ↓wt_nil, ↓wt_cons, ↓wt_sub, ↓wt_fld, ↓we_slot, ↓we_lit, ↓we_op, ↓we_cmp, ↓we_chain, ↓we_nt, ↓we_neg, ↓we_an, ↓we_orr, ↓we_ite, ↓we_tup, ↓we_lst, ↓we_dct, ↓we_sub, ↓we_slc, ↓we_rev, ↓we_fld, ↓we_call, ↓wmk_n, ↓we_mk, ↓we_meth, ↓we_blt, ↓we_bm, ↓we_lc, ↓wes_nil, ↓wes_cons, ↓wes_star, ↓wts_nil, ↓wts_cons, ↓wo_none, ↓wo_some, ↓wi_e, ↓wi_r1, ↓wi_r2, ↓wi_enum, ↓wi_enumS, ↓wi_zip, ↓wnx_n, ↓wnx_r, ↓blq, ↓v_kindS, ↓wb_join, ↓wb_app, ↓wb_pop, ↓wb_ext, ↓wo_lift, ↓x_name, ↓x_lb, ↓x_aug, ↓x_isi, ↓v_isI, ↓v_isB, ↓v_isS, ↓v_isT, ↓v_lenT, ↓v_int, ↓v_max2, ↓v_all, ↓v_any, ↓v_tupL, ↓v_disp0, ↓wk_ok, ↓wo_s, ↓wp_s, ↓wi_i, ↓v_slot0, ↓v_slotS, ↓ss_0, ↓ss_S, ↓sr_n, ↓sr_c, ↓sw_n, ↓sw_c, ↓v_opI, ↓v_add, ↓v_sub, ↓v_tr, ↓v_trO, ↓wf_t, ↓wf_f, ↓v_ix0, ↓v_ix1, ↓v_ix2, ↓v_ix3, ↓v_ix4, ↓v_ix5, ↓v_src, ↓v_perm, ↓wn_0, ↓wn_S, ↓wn_a0, ↓wn_aS, ↓wn_an, ↓dr_n, ↓dr_c, ↓wr_n, ↓wr_c, c_eqI, c_neI, c_ltI, c_gtI, c_leI, c_geI, d_ltI, d_gtI, d_leI, d_geI, c_isN, c_isntN, kindS, items_tup, true_and, and_true, ln_0, ln_1, ln_2, ln_3, ln_4, ln_5, ln_6, ln_7, ln_8, ln_9, ln_10, ln_11, ln_12, ln_13, ln_14, ln_15, ln_16, ln_17, ln_18, ln_19, ln_20]
    exact q ys _ sub (d1.same same_new) s1.new
end
end Lw
end
section
set_option autoImplicit false
set_option Elab.async false
set_option linter.all false
set_option maxRecDepth 8000
set_option maxHeartbeats 4000000
namespace Lw
open PySem Q Qw
/-- a move: origin, target, signals, modes, rooms that are empty, rooms with somebody -/
structure Mv where
  org : Nat
  tgt : Nat
  sigs : List Nat
  modes : List Nat
  empt : List Nat
  there : List Nat
  deriving DecidableEq
def encV (m : Mv) : D := .tup [.int m.org, .int m.tgt, .str ⟨m.sigs.toArray⟩, .tup (m.modes.map natD), .tup (m.empt.map natD), .tup (m.there.map natD)]
/-- a drawn house -/
structure Wd where
  spots : List Int
  steps : List Mv
  begin : List Nat
  kinds : List Md
  laws : List Rl
abbrev worldC (sp be : D) (ls lk ll : Nat) : C := .dct [(.str "spots", sp), (.str "steps", .ref ls), (.str "begin", be), (.str "kinds", .ref lk), (.str "laws", .ref ll)]
/-- .. and where it stands, its cells from b on -/
structure AtW (h : Hh) (w b : Nat) (W : Wd) (ls lk ll : Nat) : Prop where
  aw : h[w]? = some (worldC (.tup (W.spots.map .int)) (.tup (W.begin.map natD)) ls lk ll)
  as_ : h[ls]? = some (.lst (W.steps.map encV))
  ak : h[lk]? = some (.lst (W.kinds.map encM))
  al : h[ll]? = some (.lst (W.laws.map encR))
  bw : b ≤ w
  bs : b ≤ ls
  bk : b ≤ lk
  bl : b ≤ ll
  nsk : ls ≠ lk
  nsl : ls ≠ ll
  nkl : lk ≠ ll
theorem AtW.same {h h1 : Hh} {w b ls lk ll : Nat} {W : Wd} {out : List Nat} (a : AtW h w b W ls lk ll) (s : Same h h1 out) (o : ∀ x ∈ out, x < b) : AtW h1 w b W ls lk ll := by
  have no : ∀ x, b ≤ x → x ∉ out := fun x hx hm => by have := o x hm; omega
  exact ⟨s.get a.aw (no _ a.bw), s.get a.as_ (no _ a.bs), s.get a.ak (no _ a.bk), s.get a.al (no _ a.bl), a.bw, a.bs, a.bk, a.bl, a.nsk, a.nsl, a.nkl⟩
theorem AtW.ne {h : Hh} {w b ls lk ll : Nat} {W : Wd} (a : AtW h w b W ls lk ll) : w ≠ ls ∧ w ≠ lk ∧ w ≠ ll := by
  refine ⟨?_, ?_, ?_⟩ <;> intro e
  · have := a.aw; rw [e, a.as_] at this; simp [worldC] at this
  · have := a.aw; rw [e, a.ak] at this; simp [worldC] at this
  · have := a.aw; rw [e, a.al] at this; simp [worldC] at this
theorem AtW.setS {h : Hh} {w b ls lk ll : Nat} {W : Wd} (a : AtW h w b W ls lk ll) (st : List Mv) : AtW (h.set ls (.lst (st.map encV))) w b { W with steps := st } ls lk ll :=
  ⟨by rw [List.getElem?_set_ne (Ne.symm a.ne.1)]; exact a.aw, set_get a.as_, by rw [List.getElem?_set_ne a.nsk]; exact a.ak, by rw [List.getElem?_set_ne a.nsl]; exact a.al, a.bw, a.bs, a.bk, a.bl, a.nsk, a.nsl, a.nkl⟩
theorem AtW.setK {h : Hh} {w b ls lk ll : Nat} {W : Wd} (a : AtW h w b W ls lk ll) (st : List Md) : AtW (h.set lk (.lst (st.map encM))) w b { W with kinds := st } ls lk ll :=
  ⟨by rw [List.getElem?_set_ne (Ne.symm a.ne.2.1)]; exact a.aw, by rw [List.getElem?_set_ne (Ne.symm a.nsk)]; exact a.as_, set_get a.ak, by rw [List.getElem?_set_ne a.nkl]; exact a.al, a.bw, a.bs, a.bk, a.bl, a.nsk, a.nsl, a.nkl⟩
theorem AtW.setL {h : Hh} {w b ls lk ll : Nat} {W : Wd} (a : AtW h w b W ls lk ll) (st : List Rl) : AtW (h.set ll (.lst (st.map encR))) w b { W with laws := st } ls lk ll :=
  ⟨by rw [List.getElem?_set_ne (Ne.symm a.ne.2.2)]; exact a.aw, by rw [List.getElem?_set_ne (Ne.symm a.nsl)]; exact a.as_, by rw [List.getElem?_set_ne (Ne.symm a.nkl)]; exact a.ak, set_get a.al, a.bw, a.bs, a.bk, a.bl, a.nsk, a.nsl, a.nkl⟩
theorem _root_.Qw.Deck.set {h : Hh} {i j c : Nat} {x : C} (d : Deck h i j) (hi : c ≠ i) (hj : c ≠ j) : Deck (h.set c x) i j := by
  obtain ⟨ne, m, n, xs, a, b, e⟩ := d
  exact ⟨ne, m, n, xs, by rw [List.getElem?_set_ne hi]; exact a, by rw [List.getElem?_set_ne hj]; exact b, e⟩
section
variable {h : Hh} {w ls lk ll : Nat} {sp be : D}
theorem w_spots (e : h[w]? = some (worldC sp be ls lk ll)) : subD h (.ref w) (.str "spots") = some sp := (sub_txt e rfl).trans rfl
theorem w_steps (e : h[w]? = some (worldC sp be ls lk ll)) : subD h (.ref w) (.str "steps") = some (.ref ls) := (sub_txt e rfl).trans rfl
theorem w_begin (e : h[w]? = some (worldC sp be ls lk ll)) : subD h (.ref w) (.str "begin") = some be := (sub_txt e rfl).trans rfl
theorem w_kinds (e : h[w]? = some (worldC sp be ls lk ll)) : subD h (.ref w) (.str "kinds") = some (.ref lk) := (sub_txt e rfl).trans rfl
theorem w_laws (e : h[w]? = some (worldC sp be ls lk ll)) : subD h (.ref w) (.str "laws") = some (.ref ll) := (sub_txt e rfl).trans rfl
theorem disp_world {sp be : D} : dispD [.str "spots", sp, .str "steps", .ref ls, .str "begin", be, .str "kinds", .ref lk, .str "laws", .ref ll] = some [(.str "spots", sp), (.str "steps", .ref ls), (.str "begin", be), (.str "kinds", .ref lk), (.str "laws", .ref ll)] := rfl
end
/-- the rooms but one -/
def oth (s : Int) : List Nat := (List.range 3).filter fun (r : Nat) => !decide ((r : Int) = s)
/-- a step as it is drawn -/
structure OkV (sp : List Int) (nk : Nat) (m : Mv) : Prop where
  org : m.org < sp.length
  tgt : m.tgt < sp.length
  sigs : m.sigs.Sublist [65, 66, 67]
  modes : m.modes.Sublist (List.range nk)
  empt : m.empt.Sublist (oth (sp.getD m.org 0))
  there : m.there.Sublist (oth (sp.getD m.org 0))
def OkM (nk : Nat) (m : Md) : Prop := m.wait ≤ 3 ∧ m.late < nk
def OkR (nk : Nat) (r : Rl) : Prop := r.here < nk ∧ r.next < nk ∧ (r.sig = 65 ∨ r.sig = 66 ∨ r.sig = 67)
structure OkW (top : Nat) (W : Wd) : Prop where
  w0 : W.spots ≠ []
  w1 : W.spots.length ≤ top
  sp : ∀ s ∈ W.spots, s = -1 ∨ s = 0 ∨ s = 1 ∨ s = 2
  k0 : W.kinds ≠ []
  k1 : W.kinds.length ≤ 4
  km : ∀ m ∈ W.kinds, OkM W.kinds.length m
  l1 : W.laws.length ≤ 2 * W.kinds.length
  lr : ∀ r ∈ W.laws, OkR W.kinds.length r
  be : W.begin.Sublist (List.range W.spots.length)
  s1 : W.steps.length ≤ 2 * W.spots.length + 1
  sv : ∀ m ∈ W.steps, OkV W.spots W.kinds.length m
  s4 : ∀ x, (W.steps.filter fun m => decide (m.org = x)).length ≤ 4
section
variable {X : Ex} {k : Nat} {h : Hh} {Q : D → Hh → Prop} {i j : Nat}
theorem natCast_add1 {a : Nat} : (1 : Int) + (a : Int) = ((1 + a : Nat) : Int) := by omega
theorem Lworld_ok {top : Nat} (ht : 0 < top ∧ top < 1000) (d : Deck h i j) (hij : i < h.length ∧ j < h.length) (q : ∀ (h1 : Hh) (w ls lk ll : Nat) (W : Wd), OkW top W → AtW h1 w h.length W ls lk ll → Deck h1 i j → Same h h1 [i, j] → Q (.ref w) h1) : Wk X Q (fnAt P (k + 4) F_Lworld [.ref i, .int top] h) := by
  rw [r_Lworld]
  unfold T_Lworld
  simp -dsimp -failIfUnchanged only [↓wsq_n, ↓wsq_r, ↓wfin_n, ↓wfin_r, ↓ws_nil, ↓ws_cons, ↓ws_expr, ↓ws_set, ↓ws_ret, ↓ws_iff, ↓ws_pass, ↓ws_fb, ↓ws_for, ↓ws_while, ↓ws_wc, ↓ws_wb, ↓wt_tup, ↓wt_nil, ↓wt_cons, ↓wt_sub, ↓wt_fld, ↓we_slot, ↓we_lit, ↓we_op, ↓we_cmp, ↓we_chain, ↓we_nt, ↓we_neg, ↓we_an, ↓we_orr, ↓we_ite, ↓we_tup, ↓we_lst, ↓we_dct, ↓we_sub, ↓we_slc, ↓we_rev, ↓we_fld, ↓we_call, ↓wmk_n, ↓we_mk, ↓we_meth, ↓we_blt, ↓we_bm, ↓we_lc, ↓wes_nil, ↓wes_cons, ↓wes_star, ↓wts_nil, ↓wts_cons, ↓wo_none, ↓wo_some, ↓wi_e, ↓wi_r1, ↓wi_r2, ↓wi_enum, ↓wi_enumS, ↓wi_zip, ↓wnx_n, ↓wnx_r, ↓blq, ↓v_kindS, ↓wb_join, ↓wb_app, ↓wb_pop, ↓wb_ext, ↓wo_lift, ↓x_name, ↓x_lb, ↓x_aug, ↓x_isi, ↓v_isI, ↓v_isB, ↓v_isS, ↓v_isT, ↓v_lenT, ↓v_int, ↓v_max2, ↓v_all, ↓v_any, ↓v_tupL, ↓v_disp0, ↓wk_ok, ↓wo_s, ↓wp_s, ↓wi_i, ↓v_slot0, ↓v_slotS, ↓ss_0, ↓ss_S, ↓sr_n, ↓sr_c, ↓sw_n, ↓sw_c, ↓v_opI, ↓v_add, ↓v_sub, ↓v_tr, ↓v_trO, ↓wf_t, ↓wf_f, ↓v_ix0, ↓v_ix1, ↓v_ix2, ↓v_ix3, ↓v_ix4, ↓v_ix5, ↓v_src, ↓v_perm, ↓wn_0, ↓wn_S, ↓wn_a0, ↓wn_aS, ↓wn_an, ↓dr_n, ↓dr_c, ↓wr_n, ↓wr_c, c_eqI, c_neI, c_ltI, c_gtI, c_leI, c_geI, d_ltI, d_gtI, d_leI, d_geI, c_isN, c_isntN, kindS, items_tup, true_and, and_true, ln_0, ln_1, ln_2, ln_3, ln_4, ln_5, ln_6, ln_7, ln_8, ln_9, ln_10, ln_11, ln_12, ln_13, ln_14, ln_15, ln_16, ln_17, ln_18, ln_19, ln_20]
  refine Ldraw_ok (by omega) d fun r1 h1 l1 d1 s1 => ?_
  simp -dsimp -failIfUnchanged only [↓wsq_n, ↓wsq_r, ↓wfin_n, ↓wfin_r, ↓ws_nil, ↓ws_cons, ↓ws_expr, ↓ws_set, ↓ws_ret, ↓ws_iff, ↓ws_pass, ↓ws_fb, ↓ws_for, ↓ws_while, ↓ws_wc, ↓ws_wb, ↓wt_tup, ↓wt_nil, ↓wt_cons, ↓wt_sub, ↓wt_fld, ↓we_slot, ↓we_lit, ↓we_op, ↓we_cmp, ↓we_chain, ↓we_nt, ↓we_neg, ↓we_an, ↓we_orr, ↓we_ite, ↓we_tup, ↓we_lst, ↓we_dct, ↓we_sub, ↓we_slc, ↓we_rev, ↓we_fld, ↓we_call, ↓wmk_n, ↓we_mk, ↓we_meth, ↓we_blt, ↓we_bm, ↓we_lc, ↓wes_nil, ↓wes_cons, ↓wes_star, ↓wts_nil, ↓wts_cons, ↓wo_none, ↓wo_some, ↓wi_e, ↓wi_r1, ↓wi_r2, ↓wi_enum, ↓wi_enumS, ↓wi_zip, ↓wnx_n, ↓wnx_r, ↓blq, ↓v_kindS, ↓wb_join, ↓wb_app, ↓wb_pop, ↓wb_ext, ↓wo_lift, ↓x_name, ↓x_lb, ↓x_aug, ↓x_isi, ↓v_isI, ↓v_isB, ↓v_isS, ↓v_isT, ↓v_lenT, ↓v_int, ↓v_max2, ↓v_all, ↓v_any, ↓v_tupL, ↓v_disp0, ↓wk_ok, ↓wo_s, ↓wp_s, ↓wi_i, ↓v_slot0, ↓v_slotS, ↓ss_0, ↓ss_S, ↓sr_n, ↓sr_c, ↓sw_n, ↓sw_c, ↓v_opI, ↓v_add, ↓v_sub, ↓v_tr, ↓v_trO, ↓wf_t, ↓wf_f, ↓v_ix0, ↓v_ix1, ↓v_ix2, ↓v_ix3, ↓v_ix4, ↓v_ix5, ↓v_src, ↓v_perm, ↓wn_0, ↓wn_S, ↓wn_a0, ↓wn_aS, ↓wn_an, ↓dr_n, ↓dr_c, ↓wr_n, ↓wr_c, c_eqI, c_neI, c_ltI, c_gtI, c_leI, c_geI, d_ltI, d_gtI, d_leI, d_geI, c_isN, c_isntN, kindS, items_tup, true_and, and_true, ln_0, ln_1, ln_2, ln_3, ln_4, ln_5, ln_6, ln_7, ln_8, ln_9, ln_10, ln_11, ln_12, ln_13, ln_14, ln_15, ln_16, ln_17, ln_18, ln_19, ln_20]
  refine Ldraw_ok (by omega) d1 fun r2 h2 l2 d2 s2 => ?_
  simp -dsimp -failIfUnchanged only [↓wsq_n, ↓wsq_r, ↓wfin_n, ↓wfin_r, ↓ws_nil, ↓ws_cons, ↓ws_expr, ↓ws_set, ↓ws_ret, ↓ws_iff, ↓ws_pass, ↓ws_fb, ↓ws_for, ↓ws_while, ↓ws_wc, ↓ws_wb, ↓wt_tup, ↓wt_nil, ↓wt_cons, ↓wt_sub, ↓wt_fld, ↓we_slot, ↓we_lit, ↓we_op, ↓we_cmp, ↓we_chain, ↓we_nt, ↓we_neg, ↓we_an, ↓we_orr, ↓we_ite, ↓we_tup, ↓we_lst, ↓we_dct, ↓we_sub, ↓we_slc, ↓we_rev, ↓we_fld, ↓we_call, ↓wmk_n, ↓we_mk, ↓we_meth, ↓we_blt, ↓we_bm, ↓we_lc, ↓wes_nil, ↓wes_cons, ↓wes_star, ↓wts_nil, ↓wts_cons, ↓wo_none, ↓wo_some, ↓wi_e, ↓wi_r1, ↓wi_r2, ↓wi_enum, ↓wi_enumS, ↓wi_zip, ↓wnx_n, ↓wnx_r, ↓blq, ↓v_kindS, ↓wb_join, ↓wb_app, ↓wb_pop, ↓wb_ext, ↓wo_lift, ↓x_name, ↓x_lb, ↓x_aug, ↓x_isi, ↓v_isI, ↓v_isB, ↓v_isS, ↓v_isT, ↓v_lenT, ↓v_int, ↓v_max2, ↓v_all, ↓v_any, ↓v_tupL, ↓v_disp0, ↓wk_ok, ↓wo_s, ↓wp_s, ↓wi_i, ↓v_slot0, ↓v_slotS, ↓ss_0, ↓ss_S, ↓sr_n, ↓sr_c, ↓sw_n, ↓sw_c, ↓v_opI, ↓v_add, ↓v_sub, ↓v_tr, ↓v_trO, ↓wf_t, ↓wf_f, ↓v_ix0, ↓v_ix1, ↓v_ix2, ↓v_ix3, ↓v_ix4, ↓v_ix5, ↓v_src, ↓v_perm, ↓wn_0, ↓wn_S, ↓wn_a0, ↓wn_aS, ↓wn_an, ↓dr_n, ↓dr_c, ↓wr_n, ↓wr_c, c_eqI, c_neI, c_ltI, c_gtI, c_leI, c_geI, d_ltI, d_gtI, d_leI, d_geI, c_isN, c_isntN, kindS, items_tup, true_and, and_true, ln_0, ln_1, ln_2, ln_3, ln_4, ln_5, ln_6, ln_7, ln_8, ln_9, ln_10, ln_11, ln_12, ln_13, ln_14, ln_15, ln_16, ln_17, ln_18, ln_19, ln_20, natCast_add1]
  refine ⟨by simp [okRange]; omega, ?_⟩
  have s12 := s1.trans s2
  refine w_comp natD (List.range (1 + r1)) (fun a r acc h3 => Deck h3 i j ∧ Same h h3 [i, j] ∧ ∃ ys : List Int, acc = ys.map .int ∧ ys.length = a.length ∧ ∀ y ∈ ys, y = -1 ∨ y = 0 ∨ y = 1 ∨ y = 2) (fun a r acc h1 e z => at_range) ?_ ?_ ⟨d2, s12, [], rfl, rfl, by simp⟩
  · rintro a x r acc h3 e ⟨d3, s3, ys, rfl, ly, hy⟩
    simp -dsimp -failIfUnchanged only [↓wsq_n, ↓wsq_r, ↓wfin_n, ↓wfin_r, ↓ws_nil, ↓ws_cons, ↓ws_expr, ↓ws_set, ↓ws_ret, ↓ws_iff, ↓ws_pass, ↓ws_fb, ↓ws_for, ↓ws_while, ↓ws_wc, ↓ws_wb, ↓wt_tup, ↓wt_nil, ↓wt_cons, ↓wt_sub, ↓wt_fld, ↓we_slot, ↓we_lit, ↓we_op, ↓we_cmp, ↓we_chain, ↓we_nt, ↓we_neg, ↓we_an, ↓we_orr, ↓we_ite, ↓we_tup, ↓we_lst, ↓we_dct, ↓we_sub, ↓we_slc, ↓we_rev, ↓we_fld, ↓we_call, ↓wmk_n, ↓we_mk, ↓we_meth, ↓we_blt, ↓we_bm, ↓we_lc, ↓wes_nil, ↓wes_cons, ↓wes_star, ↓wts_nil, ↓wts_cons, ↓wo_none, ↓wo_some, ↓wi_e, ↓wi_r1, ↓wi_r2, ↓wi_enum, ↓wi_enumS, ↓wi_zip, ↓wnx_n, ↓wnx_r, ↓blq, ↓v_kindS, ↓wb_join, ↓wb_app, ↓wb_pop, ↓wb_ext, ↓wo_lift, ↓x_name, ↓x_lb, ↓x_aug, ↓x_isi, ↓v_isI, ↓v_isB, ↓v_isS, ↓v_isT, ↓v_lenT, ↓v_int, ↓v_max2, ↓v_all, ↓v_any, ↓v_tupL, ↓v_disp0, ↓wk_ok, ↓wo_s, ↓wp_s, ↓wi_i, ↓v_slot0, ↓v_slotS, ↓ss_0, ↓ss_S, ↓sr_n, ↓sr_c, ↓sw_n, ↓sw_c, ↓v_opI, ↓v_add, ↓v_sub, ↓v_tr, ↓v_trO, ↓wf_t, ↓wf_f, ↓v_ix0, ↓v_ix1, ↓v_ix2, ↓v_ix3, ↓v_ix4, ↓v_ix5, ↓v_src, ↓v_perm, ↓wn_0, ↓wn_S, ↓wn_a0, ↓wn_aS, ↓wn_an, ↓dr_n, ↓dr_c, ↓wr_n, ↓wr_c, c_eqI, c_neI, c_ltI, c_gtI, c_leI, c_geI, d_ltI, d_gtI, d_leI, d_geI, c_isN, c_isntN, kindS, items_tup, true_and, and_true, ln_0, ln_1, ln_2, ln_3, ln_4, ln_5, ln_6, ln_7, ln_8, ln_9, ln_10, ln_11, ln_12, ln_13, ln_14, ln_15, ln_16, ln_17, ln_18, ln_19, ln_20]
    refine Lpick_ok lst_new (by simp) (by simp) (d3.same same_new) (by have := s3.1; omega) (by have := s3.1; omega) fun x h4 hx d4 s4 => ?_
    simp -dsimp -failIfUnchanged only [↓wsq_n, ↓wsq_r, ↓wfin_n, ↓wfin_r, ↓ws_nil, ↓ws_cons, ↓ws_expr, ↓ws_set, ↓ws_ret, ↓ws_iff, ↓ws_pass, ↓ws_fb, ↓ws_for, ↓ws_while, ↓ws_wc, ↓ws_wb, ↓wt_tup, ↓wt_nil, ↓wt_cons, ↓wt_sub, ↓wt_fld, ↓we_slot, ↓we_lit, ↓we_op, ↓we_cmp, ↓we_chain, ↓we_nt, ↓we_neg, ↓we_an, ↓we_orr, ↓we_ite, ↓we_tup, ↓we_lst, ↓we_dct, ↓we_sub, ↓we_slc, ↓we_rev, ↓we_fld, ↓we_call, ↓wmk_n, ↓we_mk, ↓we_meth, ↓we_blt, ↓we_bm, ↓we_lc, ↓wes_nil, ↓wes_cons, ↓wes_star, ↓wts_nil, ↓wts_cons, ↓wo_none, ↓wo_some, ↓wi_e, ↓wi_r1, ↓wi_r2, ↓wi_enum, ↓wi_enumS, ↓wi_zip, ↓wnx_n, ↓wnx_r, ↓blq, ↓v_kindS, ↓wb_join, ↓wb_app, ↓wb_pop, ↓wb_ext, ↓wo_lift, ↓x_name, ↓x_lb, ↓x_aug, ↓x_isi, ↓v_isI, ↓v_isB, ↓v_isS, ↓v_isT, ↓v_lenT, ↓v_int, ↓v_max2, ↓v_all, ↓v_any, ↓v_tupL, ↓v_disp0, ↓wk_ok, ↓wo_s, ↓wp_s, ↓wi_i, ↓v_slot0, ↓v_slotS, ↓ss_0, ↓ss_S, ↓sr_n, ↓sr_c, ↓sw_n, ↓sw_c, ↓v_opI, ↓v_add, ↓v_sub, ↓v_tr, ↓v_trO, ↓wf_t, ↓wf_f, ↓v_ix0, ↓v_ix1, ↓v_ix2, ↓v_ix3, ↓v_ix4, ↓v_ix5, ↓v_src, ↓v_perm, ↓wn_0, ↓wn_S, ↓wn_a0, ↓wn_aS, ↓wn_an, ↓dr_n, ↓dr_c, ↓wr_n, ↓wr_c, c_eqI, c_neI, c_ltI, c_gtI, c_leI, c_geI, d_ltI, d_gtI, d_leI, d_geI, c_isN, c_isntN, kindS, items_tup, true_and, and_true, ln_0, ln_1, ln_2, ln_3, ln_4, ln_5, ln_6, ln_7, ln_8, ln_9, ln_10, ln_11, ln_12, ln_13, ln_14, ln_15, ln_16, ln_17, ln_18, ln_19, ln_20, no_s]
    simp only [List.mem_cons, List.not_mem_nil, or_false] at hx
    have : ∃ y : Int, x = .int y ∧ (y = -1 ∨ y = 0 ∨ y = 1 ∨ y = 2) := by rcases hx with rfl | rfl | rfl | rfl | rfl <;> exact ⟨_, rfl, by omega⟩
    obtain ⟨y, rfl, oy⟩ := this
    refine ⟨d4, (s3.trans same_new.wide).trans s4, ys ++ [y], by simp, by simp [ly], ?_⟩
    intro z hz
    rcases List.mem_append.mp hz with hz | hz
    · exact hy z hz
    · rw [List.mem_singleton.mp hz]; exact oy
  rintro acc h3 ⟨d3, s3, sp, rfl, lsp, hsp⟩
  simp only [List.length_range] at lsp
  refine ⟨by simp [maxLen]; omega, ?_⟩
  simp -dsimp -failIfUnchanged only [↓wsq_n, ↓wsq_r, ↓wfin_n, ↓wfin_r, ↓ws_nil, ↓ws_cons, ↓ws_expr, ↓ws_set, ↓ws_ret, ↓ws_iff, ↓ws_pass, ↓ws_fb, ↓ws_for, ↓ws_while, ↓ws_wc, ↓ws_wb, ↓wt_tup, ↓wt_nil, ↓wt_cons, ↓wt_sub, ↓wt_fld, ↓we_slot, ↓we_lit, ↓we_op, ↓we_cmp, ↓we_chain, ↓we_nt, ↓we_neg, ↓we_an, ↓we_orr, ↓we_ite, ↓we_tup, ↓we_lst, ↓we_dct, ↓we_sub, ↓we_slc, ↓we_rev, ↓we_fld, ↓we_call, ↓wmk_n, ↓we_mk, ↓we_meth, ↓we_blt, ↓we_bm, ↓we_lc, ↓wes_nil, ↓wes_cons, ↓wes_star, ↓wts_nil, ↓wts_cons, ↓wo_none, ↓wo_some, ↓wi_e, ↓wi_r1, ↓wi_r2, ↓wi_enum, ↓wi_enumS, ↓wi_zip, ↓wnx_n, ↓wnx_r, ↓blq, ↓v_kindS, ↓wb_join, ↓wb_app, ↓wb_pop, ↓wb_ext, ↓wo_lift, ↓x_name, ↓x_lb, ↓x_aug, ↓x_isi, ↓v_isI, ↓v_isB, ↓v_isS, ↓v_isT, ↓v_lenT, ↓v_int, ↓v_max2, ↓v_all, ↓v_any, ↓v_tupL, ↓v_disp0, ↓wk_ok, ↓wo_s, ↓wp_s, ↓wi_i, ↓v_slot0, ↓v_slotS, ↓ss_0, ↓ss_S, ↓sr_n, ↓sr_c, ↓sw_n, ↓sw_c, ↓v_opI, ↓v_add, ↓v_sub, ↓v_tr, ↓v_trO, ↓wf_t, ↓wf_f, ↓v_ix0, ↓v_ix1, ↓v_ix2, ↓v_ix3, ↓v_ix4, ↓v_ix5, ↓v_src, ↓v_perm, ↓wn_0, ↓wn_S, ↓wn_a0, ↓wn_aS, ↓wn_an, ↓dr_n, ↓dr_c, ↓wr_n, ↓wr_c, c_eqI, c_neI, c_ltI, c_gtI, c_leI, c_geI, d_ltI, d_gtI, d_leI, d_geI, c_isN, c_isntN, kindS, items_tup, true_and, and_true, ln_0, ln_1, ln_2, ln_3, ln_4, ln_5, ln_6, ln_7, ln_8, ln_9, ln_10, ln_11, ln_12, ln_13, ln_14, ln_15, ln_16, ln_17, ln_18, ln_19, ln_20]
  rw [natCast_add1 (a := r1), natCast_add1 (a := r2)]
  have lw : 1 + r1 ≤ top := by omega
  have lk4 : 1 + r2 ≤ 4 := by omega
  have gw : 0 < 1 + r1 := by omega
  have gk : 0 < 1 + r2 := by omega
  generalize 1 + r1 = wd at lsp lw gw ⊢
  generalize 1 + r2 = nk at lk4 gk ⊢
  have hls := s3.1
  refine Lsome_ok (by omega) (by omega) ((d3.same same_new).same same_new) fun be h4 hbe d4 s4 => ?_
  simp -dsimp -failIfUnchanged only [↓wsq_n, ↓wsq_r, ↓wfin_n, ↓wfin_r, ↓ws_nil, ↓ws_cons, ↓ws_expr, ↓ws_set, ↓ws_ret, ↓ws_iff, ↓ws_pass, ↓ws_fb, ↓ws_for, ↓ws_while, ↓ws_wc, ↓ws_wb, ↓wt_tup, ↓wt_nil, ↓wt_cons, ↓wt_sub, ↓wt_fld, ↓we_slot, ↓we_lit, ↓we_op, ↓we_cmp, ↓we_chain, ↓we_nt, ↓we_neg, ↓we_an, ↓we_orr, ↓we_ite, ↓we_tup, ↓we_lst, ↓we_dct, ↓we_sub, ↓we_slc, ↓we_rev, ↓we_fld, ↓we_call, ↓wmk_n, ↓we_mk, ↓we_meth, ↓we_blt, ↓we_bm, ↓we_lc, ↓wes_nil, ↓wes_cons, ↓wes_star, ↓wts_nil, ↓wts_cons, ↓wo_none, ↓wo_some, ↓wi_e, ↓wi_r1, ↓wi_r2, ↓wi_enum, ↓wi_enumS, ↓wi_zip, ↓wnx_n, ↓wnx_r, ↓blq, ↓v_kindS, ↓wb_join, ↓wb_app, ↓wb_pop, ↓wb_ext, ↓wo_lift, ↓x_name, ↓x_lb, ↓x_aug, ↓x_isi, ↓v_isI, ↓v_isB, ↓v_isS, ↓v_isT, ↓v_lenT, ↓v_int, ↓v_max2, ↓v_all, ↓v_any, ↓v_tupL, ↓v_disp0, ↓wk_ok, ↓wo_s, ↓wp_s, ↓wi_i, ↓v_slot0, ↓v_slotS, ↓ss_0, ↓ss_S, ↓sr_n, ↓sr_c, ↓sw_n, ↓sw_c, ↓v_opI, ↓v_add, ↓v_sub, ↓v_tr, ↓v_trO, ↓wf_t, ↓wf_f, ↓v_ix0, ↓v_ix1, ↓v_ix2, ↓v_ix3, ↓v_ix4, ↓v_ix5, ↓v_src, ↓v_perm, ↓wn_0, ↓wn_S, ↓wn_a0, ↓wn_aS, ↓wn_an, ↓dr_n, ↓dr_c, ↓wr_n, ↓wr_c, c_eqI, c_neI, c_ltI, c_gtI, c_leI, c_geI, d_ltI, d_gtI, d_leI, d_geI, c_isN, c_isntN, kindS, items_tup, true_and, and_true, ln_0, ln_1, ln_2, ln_3, ln_4, ln_5, ln_6, ln_7, ln_8, ln_9, ln_10, ln_11, ln_12, ln_13, ln_14, ln_15, ln_16, ln_17, ln_18, ln_19, ln_20, disp_world]
  have aW : AtW (h4 ++ [C.lst []] ++ [C.lst []] ++ [C.dct [(.str "spots", .tup (sp.map .int)), (.str "steps", .ref (h3 ++ [C.lst (sp.map .int)]).length), (.str "begin", .tup (be.map natD)), (.str "kinds", .ref h4.length), (.str "laws", .ref (h4 ++ [C.lst []]).length)]]) (h4 ++ [C.lst []] ++ [C.lst []]).length h.length ⟨sp, [], be, [], []⟩ (h3 ++ [C.lst (sp.map .int)]).length h4.length (h4 ++ [C.lst []]).length := by
    have hl4 := s4.1
    simp only [List.length_append, List.length_cons, List.length_nil] at hl4
    refine ⟨new_get, ?_, ?_, ?_, ?_, ?_, ?_, ?_, ?_, ?_, ?_⟩
    · exact ((same_new.trans same_new).trans same_new).get0 (s4.get new_get (by simp; omega))
    · exact (same_new.trans same_new).get0 new_get
    · exact same_new.get0 new_get
    all_goals (try simp only [List.length_append, List.length_cons, List.length_nil]); omega
  have d5 : Deck (h4 ++ [C.lst []] ++ [C.lst []] ++ [C.dct [(.str "spots", .tup (sp.map .int)), (.str "steps", .ref (h3 ++ [C.lst (sp.map .int)]).length), (.str "begin", .tup (be.map natD)), (.str "kinds", .ref h4.length), (.str "laws", .ref (h4 ++ [C.lst []]).length)]]) i j := ((d4.same same_new).same same_new).same same_new
  have s5 : Same h (h4 ++ [C.lst []] ++ [C.lst []] ++ [C.dct [(.str "spots", .tup (sp.map .int)), (.str "steps", .ref (h3 ++ [C.lst (sp.map .int)]).length), (.str "begin", .tup (be.map natD)), (.str "kinds", .ref h4.length), (.str "laws", .ref (h4 ++ [C.lst []]).length)]]) [i, j] := ((((s3.new.new).trans s4).new).new).new
  generalize h4 ++ [C.lst []] ++ [C.lst []] ++ [C.dct [(.str "spots", .tup (sp.map .int)), (.str "steps", .ref (h3 ++ [C.lst (sp.map .int)]).length), (.str "begin", .tup (be.map natD)), (.str "kinds", .ref h4.length), (.str "laws", .ref (h4 ++ [C.lst []]).length)]] = h5 at aW d5 s5 ⊢
  generalize (h4 ++ [C.lst []] ++ [C.lst []]).length = w at aW ⊢
  generalize (h3 ++ [C.lst (sp.map .int)]).length = ls at aW ⊢
  generalize (h4 ++ [C.lst []]).length = ll at aW ⊢
  generalize h4.length = lk at aW ⊢
  clear s4 d4 hls s3 d3 s12 d1 d2 s1 s2 l1 l2
  simp -dsimp -failIfUnchanged only [↓wsq_n, ↓wsq_r, ↓wfin_n, ↓wfin_r, ↓ws_nil, ↓ws_cons, ↓ws_expr, ↓ws_set, ↓ws_ret, ↓ws_iff, ↓ws_pass, ↓ws_fb, ↓ws_for, ↓ws_while, ↓ws_wc, ↓ws_wb, ↓wt_tup, ↓wt_nil, ↓wt_cons, ↓wt_sub, ↓wt_fld, ↓we_slot, ↓we_lit, ↓we_op, ↓we_cmp, ↓we_chain, ↓we_nt, ↓we_neg, ↓we_an, ↓we_orr, ↓we_ite, ↓we_tup, ↓we_lst, ↓we_dct, ↓we_sub, ↓we_slc, ↓we_rev, ↓we_fld, ↓we_call, ↓wmk_n, ↓we_mk, ↓we_meth, ↓we_blt, ↓we_bm, ↓we_lc, ↓wes_nil, ↓wes_cons, ↓wes_star, ↓wts_nil, ↓wts_cons, ↓wo_none, ↓wo_some, ↓wi_e, ↓wi_r1, ↓wi_r2, ↓wi_enum, ↓wi_enumS, ↓wi_zip, ↓wnx_n, ↓wnx_r, ↓blq, ↓v_kindS, ↓wb_join, ↓wb_app, ↓wb_pop, ↓wb_ext, ↓wo_lift, ↓x_name, ↓x_lb, ↓x_aug, ↓x_isi, ↓v_isI, ↓v_isB, ↓v_isS, ↓v_isT, ↓v_lenT, ↓v_int, ↓v_max2, ↓v_all, ↓v_any, ↓v_tupL, ↓v_disp0, ↓wk_ok, ↓wo_s, ↓wp_s, ↓wi_i, ↓v_slot0, ↓v_slotS, ↓ss_0, ↓ss_S, ↓sr_n, ↓sr_c, ↓sw_n, ↓sw_c, ↓v_opI, ↓v_add, ↓v_sub, ↓v_tr, ↓v_trO, ↓wf_t, ↓wf_f, ↓v_ix0, ↓v_ix1, ↓v_ix2, ↓v_ix3, ↓v_ix4, ↓v_ix5, ↓v_src, ↓v_perm, ↓wn_0, ↓wn_S, ↓wn_a0, ↓wn_aS, ↓wn_an, ↓dr_n, ↓dr_c, ↓wr_n, ↓wr_c, c_eqI, c_neI, c_ltI, c_gtI, c_leI, c_geI, d_ltI, d_gtI, d_leI, d_geI, c_isN, c_isntN, kindS, items_tup, true_and, and_true, ln_0, ln_1, ln_2, ln_3, ln_4, ln_5, ln_6, ln_7, ln_8, ln_9, ln_10, ln_11, ln_12, ln_13, ln_14, ln_15, ln_16, ln_17, ln_18, ln_19, ln_20, o_mulL (i := 2) rfl]
  refine Ldraw_ok (by omega) d5 fun n1 h6 ln1 d6 s6 => ?_
  simp -dsimp -failIfUnchanged only [↓wsq_n, ↓wsq_r, ↓wfin_n, ↓wfin_r, ↓ws_nil, ↓ws_cons, ↓ws_expr, ↓ws_set, ↓ws_ret, ↓ws_iff, ↓ws_pass, ↓ws_fb, ↓ws_for, ↓ws_while, ↓ws_wc, ↓ws_wb, ↓wt_tup, ↓wt_nil, ↓wt_cons, ↓wt_sub, ↓wt_fld, ↓we_slot, ↓we_lit, ↓we_op, ↓we_cmp, ↓we_chain, ↓we_nt, ↓we_neg, ↓we_an, ↓we_orr, ↓we_ite, ↓we_tup, ↓we_lst, ↓we_dct, ↓we_sub, ↓we_slc, ↓we_rev, ↓we_fld, ↓we_call, ↓wmk_n, ↓we_mk, ↓we_meth, ↓we_blt, ↓we_bm, ↓we_lc, ↓wes_nil, ↓wes_cons, ↓wes_star, ↓wts_nil, ↓wts_cons, ↓wo_none, ↓wo_some, ↓wi_e, ↓wi_r1, ↓wi_r2, ↓wi_enum, ↓wi_enumS, ↓wi_zip, ↓wnx_n, ↓wnx_r, ↓blq, ↓v_kindS, ↓wb_join, ↓wb_app, ↓wb_pop, ↓wb_ext, ↓wo_lift, ↓x_name, ↓x_lb, ↓x_aug, ↓x_isi, ↓v_isI, ↓v_isB, ↓v_isS, ↓v_isT, ↓v_lenT, ↓v_int, ↓v_max2, ↓v_all, ↓v_any, ↓v_tupL, ↓v_disp0, ↓wk_ok, ↓wo_s, ↓wp_s, ↓wi_i, ↓v_slot0, ↓v_slotS, ↓ss_0, ↓ss_S, ↓sr_n, ↓sr_c, ↓sw_n, ↓sw_c, ↓v_opI, ↓v_add, ↓v_sub, ↓v_tr, ↓v_trO, ↓wf_t, ↓wf_f, ↓v_ix0, ↓v_ix1, ↓v_ix2, ↓v_ix3, ↓v_ix4, ↓v_ix5, ↓v_src, ↓v_perm, ↓wn_0, ↓wn_S, ↓wn_a0, ↓wn_aS, ↓wn_an, ↓dr_n, ↓dr_c, ↓wr_n, ↓wr_c, c_eqI, c_neI, c_ltI, c_gtI, c_leI, c_geI, d_ltI, d_gtI, d_leI, d_geI, c_isN, c_isntN, kindS, items_tup, true_and, and_true, ln_0, ln_1, ln_2, ln_3, ln_4, ln_5, ln_6, ln_7, ln_8, ln_9, ln_10, ln_11, ln_12, ln_13, ln_14, ln_15, ln_16, ln_17, ln_18, ln_19, ln_20]
  refine ⟨by simp [okRange]; omega, ?_⟩
  have hb : ∀ x ∈ [i, j], x < h.length := by simp; omega
  refine w_for natD (List.range n1) (fun a r σ h' => ∃ s5 s7 s8 s9 s10 s11 s12 s13 s14 s15 s16 s17 st, σ = [some (.ref i), some (.int top), some (.int wd), some (.int nk), some (.tup (sp.map .int)), s5, some (.ref w), s7, s8, s9, s10, s11, s12, s13, s14, s15, s16, s17] ∧ Deck h' i j ∧ Same h h' [i, j] ∧ AtW h' w h.length ⟨sp, st, be, [], []⟩ ls lk ll ∧ st.length ≤ a.length ∧ (∀ m ∈ st, OkV sp nk m) ∧ ∀ x, (st.filter fun m => decide (m.org = x)).length ≤ 4) (fun a r σ h1 e z => at_range) ?_ ?_ ⟨_, _, _, _, _, _, _, _, _, _, _, _, [], rfl, d6, s5.trans s6, aW.same s6 hb, by simp, by simp, by simp⟩
  · rintro a x r σ h1 ea ⟨s5, s7, s8, s9, s10, s11, s12, s13, s14, s15, s16, s17, st, rfl, d1, s1, aW1, lst, okv, l4⟩
    simp -dsimp -failIfUnchanged only [↓wsq_n, ↓wsq_r, ↓wfin_n, ↓wfin_r, ↓ws_nil, ↓ws_cons, ↓ws_expr, ↓ws_set, ↓ws_ret, ↓ws_iff, ↓ws_pass, ↓ws_fb, ↓ws_for, ↓ws_while, ↓ws_wc, ↓ws_wb, ↓wt_tup, ↓wt_nil, ↓wt_cons, ↓wt_sub, ↓wt_fld, ↓we_slot, ↓we_lit, ↓we_op, ↓we_cmp, ↓we_chain, ↓we_nt, ↓we_neg, ↓we_an, ↓we_orr, ↓we_ite, ↓we_tup, ↓we_lst, ↓we_dct, ↓we_sub, ↓we_slc, ↓we_rev, ↓we_fld, ↓we_call, ↓wmk_n, ↓we_mk, ↓we_meth, ↓we_blt, ↓we_bm, ↓we_lc, ↓wes_nil, ↓wes_cons, ↓wes_star, ↓wts_nil, ↓wts_cons, ↓wo_none, ↓wo_some, ↓wi_e, ↓wi_r1, ↓wi_r2, ↓wi_enum, ↓wi_enumS, ↓wi_zip, ↓wnx_n, ↓wnx_r, ↓blq, ↓v_kindS, ↓wb_join, ↓wb_app, ↓wb_pop, ↓wb_ext, ↓wo_lift, ↓x_name, ↓x_lb, ↓x_aug, ↓x_isi, ↓v_isI, ↓v_isB, ↓v_isS, ↓v_isT, ↓v_lenT, ↓v_int, ↓v_max2, ↓v_all, ↓v_any, ↓v_tupL, ↓v_disp0, ↓wk_ok, ↓wo_s, ↓wp_s, ↓wi_i, ↓v_slot0, ↓v_slotS, ↓ss_0, ↓ss_S, ↓sr_n, ↓sr_c, ↓sw_n, ↓sw_c, ↓v_opI, ↓v_add, ↓v_sub, ↓v_tr, ↓v_trO, ↓wf_t, ↓wf_f, ↓v_ix0, ↓v_ix1, ↓v_ix2, ↓v_ix3, ↓v_ix4, ↓v_ix5, ↓v_src, ↓v_perm, ↓wn_0, ↓wn_S, ↓wn_a0, ↓wn_aS, ↓wn_an, ↓dr_n, ↓dr_c, ↓wr_n, ↓wr_c, c_eqI, c_neI, c_ltI, c_gtI, c_leI, c_geI, d_ltI, d_gtI, d_leI, d_geI, c_isN, c_isntN, kindS, items_tup, true_and, and_true, ln_0, ln_1, ln_2, ln_3, ln_4, ln_5, ln_6, ln_7, ln_8, ln_9, ln_10, ln_11, ln_12, ln_13, ln_14, ln_15, ln_16, ln_17, ln_18, ln_19, ln_20]
    refine Ldraw_ok (by omega) d1 fun x1 h2 lx1 d2 s2 => ?_
    simp -dsimp -failIfUnchanged only [↓wsq_n, ↓wsq_r, ↓wfin_n, ↓wfin_r, ↓ws_nil, ↓ws_cons, ↓ws_expr, ↓ws_set, ↓ws_ret, ↓ws_iff, ↓ws_pass, ↓ws_fb, ↓ws_for, ↓ws_while, ↓ws_wc, ↓ws_wb, ↓wt_tup, ↓wt_nil, ↓wt_cons, ↓wt_sub, ↓wt_fld, ↓we_slot, ↓we_lit, ↓we_op, ↓we_cmp, ↓we_chain, ↓we_nt, ↓we_neg, ↓we_an, ↓we_orr, ↓we_ite, ↓we_tup, ↓we_lst, ↓we_dct, ↓we_sub, ↓we_slc, ↓we_rev, ↓we_fld, ↓we_call, ↓wmk_n, ↓we_mk, ↓we_meth, ↓we_blt, ↓we_bm, ↓we_lc, ↓wes_nil, ↓wes_cons, ↓wes_star, ↓wts_nil, ↓wts_cons, ↓wo_none, ↓wo_some, ↓wi_e, ↓wi_r1, ↓wi_r2, ↓wi_enum, ↓wi_enumS, ↓wi_zip, ↓wnx_n, ↓wnx_r, ↓blq, ↓v_kindS, ↓wb_join, ↓wb_app, ↓wb_pop, ↓wb_ext, ↓wo_lift, ↓x_name, ↓x_lb, ↓x_aug, ↓x_isi, ↓v_isI, ↓v_isB, ↓v_isS, ↓v_isT, ↓v_lenT, ↓v_int, ↓v_max2, ↓v_all, ↓v_any, ↓v_tupL, ↓v_disp0, ↓wk_ok, ↓wo_s, ↓wp_s, ↓wi_i, ↓v_slot0, ↓v_slotS, ↓ss_0, ↓ss_S, ↓sr_n, ↓sr_c, ↓sw_n, ↓sw_c, ↓v_opI, ↓v_add, ↓v_sub, ↓v_tr, ↓v_trO, ↓wf_t, ↓wf_f, ↓v_ix0, ↓v_ix1, ↓v_ix2, ↓v_ix3, ↓v_ix4, ↓v_ix5, ↓v_src, ↓v_perm, ↓wn_0, ↓wn_S, ↓wn_a0, ↓wn_aS, ↓wn_an, ↓dr_n, ↓dr_c, ↓wr_n, ↓wr_c, c_eqI, c_neI, c_ltI, c_gtI, c_leI, c_geI, d_ltI, d_gtI, d_leI, d_geI, c_isN, c_isntN, kindS, items_tup, true_and, and_true, ln_0, ln_1, ln_2, ln_3, ln_4, ln_5, ln_6, ln_7, ln_8, ln_9, ln_10, ln_11, ln_12, ln_13, ln_14, ln_15, ln_16, ln_17, ln_18, ln_19, ln_20]
    refine Ldraw_ok (by omega) d2 fun y1 h3 ly1 d3 s3 => ?_
    have s13 := (s1.trans s2).trans s3
    have aW3 := aW1.same (s2.trans s3) hb
    simp -dsimp -failIfUnchanged only [↓wsq_n, ↓wsq_r, ↓wfin_n, ↓wfin_r, ↓ws_nil, ↓ws_cons, ↓ws_expr, ↓ws_set, ↓ws_ret, ↓ws_iff, ↓ws_pass, ↓ws_fb, ↓ws_for, ↓ws_while, ↓ws_wc, ↓ws_wb, ↓wt_tup, ↓wt_nil, ↓wt_cons, ↓wt_sub, ↓wt_fld, ↓we_slot, ↓we_lit, ↓we_op, ↓we_cmp, ↓we_chain, ↓we_nt, ↓we_neg, ↓we_an, ↓we_orr, ↓we_ite, ↓we_tup, ↓we_lst, ↓we_dct, ↓we_sub, ↓we_slc, ↓we_rev, ↓we_fld, ↓we_call, ↓wmk_n, ↓we_mk, ↓we_meth, ↓we_blt, ↓we_bm, ↓we_lc, ↓wes_nil, ↓wes_cons, ↓wes_star, ↓wts_nil, ↓wts_cons, ↓wo_none, ↓wo_some, ↓wi_e, ↓wi_r1, ↓wi_r2, ↓wi_enum, ↓wi_enumS, ↓wi_zip, ↓wnx_n, ↓wnx_r, ↓blq, ↓v_kindS, ↓wb_join, ↓wb_app, ↓wb_pop, ↓wb_ext, ↓wo_lift, ↓x_name, ↓x_lb, ↓x_aug, ↓x_isi, ↓v_isI, ↓v_isB, ↓v_isS, ↓v_isT, ↓v_lenT, ↓v_int, ↓v_max2, ↓v_all, ↓v_any, ↓v_tupL, ↓v_disp0, ↓wk_ok, ↓wo_s, ↓wp_s, ↓wi_i, ↓v_slot0, ↓v_slotS, ↓ss_0, ↓ss_S, ↓sr_n, ↓sr_c, ↓sw_n, ↓sw_c, ↓v_opI, ↓v_add, ↓v_sub, ↓v_tr, ↓v_trO, ↓wf_t, ↓wf_f, ↓v_ix0, ↓v_ix1, ↓v_ix2, ↓v_ix3, ↓v_ix4, ↓v_ix5, ↓v_src, ↓v_perm, ↓wn_0, ↓wn_S, ↓wn_a0, ↓wn_aS, ↓wn_an, ↓dr_n, ↓dr_c, ↓wr_n, ↓wr_c, c_eqI, c_neI, c_ltI, c_gtI, c_leI, c_geI, d_ltI, d_gtI, d_leI, d_geI, c_isN, c_isntN, kindS, items_tup, true_and, and_true, ln_0, ln_1, ln_2, ln_3, ln_4, ln_5, ln_6, ln_7, ln_8, ln_9, ln_10, ln_11, ln_12, ln_13, ln_14, ln_15, ln_16, ln_17, ln_18, ln_19, ln_20, src_lst lst_new]
    refine w_comp sgD [65, 66, 67] (fun a r acc h' => Deck h' i j ∧ Same h h' [i, j] ∧ AtW h' w h.length ⟨sp, st, be, [], []⟩ ls lk ll ∧ h'[h3.length]? = some (.lst ([65, 66, 67].map sgD)) ∧ ∃ ys : List Nat, acc = ys.map sgD ∧ ys.Sublist a) ?_ ?_ ?_ ⟨d3.same same_new, s13.new, aW3.same same_new (by simp), new_get, [], rfl, List.Sublist.refl _⟩
    · rintro a r acc h' e ⟨d4, s4, a4, g4, ys, rfl, sub⟩
      exact at_cell rfl (lst_get g4)
    · rintro a c r acc h' e ⟨d4, s4, a4, g4, ys, rfl, sub⟩
      simp -dsimp -failIfUnchanged only [↓wsq_n, ↓wsq_r, ↓wfin_n, ↓wfin_r, ↓ws_nil, ↓ws_cons, ↓ws_expr, ↓ws_set, ↓ws_ret, ↓ws_iff, ↓ws_pass, ↓ws_fb, ↓ws_for, ↓ws_while, ↓ws_wc, ↓ws_wb, ↓wt_tup, ↓wt_nil, ↓wt_cons, ↓wt_sub, ↓wt_fld, ↓we_slot, ↓we_lit, ↓we_op, ↓we_cmp, ↓we_chain, ↓we_nt, ↓we_neg, ↓we_an, ↓we_orr, ↓we_ite, ↓we_tup, ↓we_lst, ↓we_dct, ↓we_sub, ↓we_slc, ↓we_rev, ↓we_fld, ↓we_call, ↓wmk_n, ↓we_mk, ↓we_meth, ↓we_blt, ↓we_bm, ↓we_lc, ↓wes_nil, ↓wes_cons, ↓wes_star, ↓wts_nil, ↓wts_cons, ↓wo_none, ↓wo_some, ↓wi_e, ↓wi_r1, ↓wi_r2, ↓wi_enum, ↓wi_enumS, ↓wi_zip, ↓wnx_n, ↓wnx_r, ↓blq, ↓v_kindS, ↓wb_join, ↓wb_app, ↓wb_pop, ↓wb_ext, ↓wo_lift, ↓x_name, ↓x_lb, ↓x_aug, ↓x_isi, ↓v_isI, ↓v_isB, ↓v_isS, ↓v_isT, ↓v_lenT, ↓v_int, ↓v_max2, ↓v_all, ↓v_any, ↓v_tupL, ↓v_disp0, ↓wk_ok, ↓wo_s, ↓wp_s, ↓wi_i, ↓v_slot0, ↓v_slotS, ↓ss_0, ↓ss_S, ↓sr_n, ↓sr_c, ↓sw_n, ↓sw_c, ↓v_opI, ↓v_add, ↓v_sub, ↓v_tr, ↓v_trO, ↓wf_t, ↓wf_f, ↓v_ix0, ↓v_ix1, ↓v_ix2, ↓v_ix3, ↓v_ix4, ↓v_ix5, ↓v_src, ↓v_perm, ↓wn_0, ↓wn_S, ↓wn_a0, ↓wn_aS, ↓wn_an, ↓dr_n, ↓dr_c, ↓wr_n, ↓wr_c, c_eqI, c_neI, c_ltI, c_gtI, c_leI, c_geI, d_ltI, d_gtI, d_leI, d_geI, c_isN, c_isntN, kindS, items_tup, true_and, and_true, ln_0, ln_1, ln_2, ln_3, ln_4, ln_5, ln_6, ln_7, ln_8, ln_9, ln_10, ln_11, ln_12, ln_13, ln_14, ln_15, ln_16, ln_17, ln_18, ln_19, ln_20]
      refine Ldraw_ok (by omega) d4 fun n h5 ln d5 s5 => ?_
      have nij : h3.length ∉ [i, j] := by have := s13.1; simp; omega
      ((try simp -dsimp -failIfUnchanged only [↓wsq_n, ↓wsq_r, ↓wfin_n, ↓wfin_r, ↓ws_nil, ↓ws_cons, ↓ws_expr, ↓ws_set, ↓ws_ret, ↓ws_iff, ↓ws_pass, ↓ws_fb, ↓ws_for, ↓ws_while, ↓ws_wc, ↓ws_wb, ↓wt_tup, ↓wt_nil, ↓wt_cons, ↓wt_sub, ↓wt_fld, ↓we_slot, ↓we_lit, ↓we_op, ↓we_cmp, ↓we_chain, ↓we_nt, ↓we_neg, ↓we_an, ↓we_orr, ↓we_ite, ↓we_tup, ↓we_lst, ↓we_dct, ↓we_sub, ↓we_slc, ↓we_rev, ↓we_fld, ↓we_call, ↓wmk_n, ↓we_mk, ↓we_meth, ↓we_blt, ↓we_bm, ↓we_lc, ↓wes_nil, ↓wes_cons, ↓wes_star, ↓wts_nil, ↓wts_cons, ↓wo_none, ↓wo_some, ↓wi_e, ↓wi_r1, ↓wi_r2, ↓wi_enum, ↓wi_enumS, ↓wi_zip, ↓wnx_n, ↓wnx_r, ↓blq, ↓v_kindS, ↓wb_join, ↓wb_app, ↓wb_pop, ↓wb_ext, ↓wo_lift, ↓x_name, ↓x_lb, ↓x_aug, ↓x_isi, ↓v_isI, ↓v_isB, ↓v_isS, ↓v_isT, ↓v_lenT, ↓v_int, ↓v_max2, ↓v_all, ↓v_any, ↓v_tupL, ↓v_disp0, ↓wk_ok, ↓wo_s, ↓wp_s, ↓wi_i, ↓v_slot0, ↓v_slotS, ↓ss_0, ↓ss_S, ↓sr_n, ↓sr_c, ↓sw_n, ↓sw_c, ↓v_opI, ↓v_add, ↓v_sub, ↓v_tr, ↓v_trO, ↓wf_t, ↓wf_f, ↓v_ix0, ↓v_ix1, ↓v_ix2, ↓v_ix3, ↓v_ix4, ↓v_ix5, ↓v_src, ↓v_perm, ↓wn_0, ↓wn_S, ↓wn_a0, ↓wn_aS, ↓wn_an, ↓dr_n, ↓dr_c, ↓wr_n, ↓wr_c, c_eqI, c_neI, c_ltI, c_gtI, c_leI, c_geI, d_ltI, d_gtI, d_leI, d_geI, c_isN, c_isntN, kindS, items_tup, true_and, and_true, ln_0, ln_1, ln_2, ln_3, ln_4, ln_5, ln_6, ln_7, ln_8, ln_9, ln_10, ln_11, ln_12, ln_13, ln_14, ln_15, ln_16, ln_17, ln_18, ln_19, ln_20, no_s, no_n]); (repeat' (refine wf_i (fun hz => ?_) (fun hz => ?_) <;> (try simp -dsimp -failIfUnchanged only [↓wsq_n, ↓wsq_r, ↓wfin_n, ↓wfin_r, ↓ws_nil, ↓ws_cons, ↓ws_expr, ↓ws_set, ↓ws_ret, ↓ws_iff, ↓ws_pass, ↓ws_fb, ↓ws_for, ↓ws_while, ↓ws_wc, ↓ws_wb, ↓wt_tup, ↓wt_nil, ↓wt_cons, ↓wt_sub, ↓wt_fld, ↓we_slot, ↓we_lit, ↓we_op, ↓we_cmp, ↓we_chain, ↓we_nt, ↓we_neg, ↓we_an, ↓we_orr, ↓we_ite, ↓we_tup, ↓we_lst, ↓we_dct, ↓we_sub, ↓we_slc, ↓we_rev, ↓we_fld, ↓we_call, ↓wmk_n, ↓we_mk, ↓we_meth, ↓we_blt, ↓we_bm, ↓we_lc, ↓wes_nil, ↓wes_cons, ↓wes_star, ↓wts_nil, ↓wts_cons, ↓wo_none, ↓wo_some, ↓wi_e, ↓wi_r1, ↓wi_r2, ↓wi_enum, ↓wi_enumS, ↓wi_zip, ↓wnx_n, ↓wnx_r, ↓blq, ↓v_kindS, ↓wb_join, ↓wb_app, ↓wb_pop, ↓wb_ext, ↓wo_lift, ↓x_name, ↓x_lb, ↓x_aug, ↓x_isi, ↓v_isI, ↓v_isB, ↓v_isS, ↓v_isT, ↓v_lenT, ↓v_int, ↓v_max2, ↓v_all, ↓v_any, ↓v_tupL, ↓v_disp0, ↓wk_ok, ↓wo_s, ↓wp_s, ↓wi_i, ↓v_slot0, ↓v_slotS, ↓ss_0, ↓ss_S, ↓sr_n, ↓sr_c, ↓sw_n, ↓sw_c, ↓v_opI, ↓v_add, ↓v_sub, ↓v_tr, ↓v_trO, ↓wf_t, ↓wf_f, ↓v_ix0, ↓v_ix1, ↓v_ix2, ↓v_ix3, ↓v_ix4, ↓v_ix5, ↓v_src, ↓v_perm, ↓wn_0, ↓wn_S, ↓wn_a0, ↓wn_aS, ↓wn_an, ↓dr_n, ↓dr_c, ↓wr_n, ↓wr_c, c_eqI, c_neI, c_ltI, c_gtI, c_leI, c_geI, d_ltI, d_gtI, d_leI, d_geI, c_isN, c_isntN, kindS, items_tup, true_and, and_true, ln_0, ln_1, ln_2, ln_3, ln_4, ln_5, ln_6, ln_7, ln_8, ln_9, ln_10, ln_11, ln_12, ln_13, ln_14, ln_15, ln_16, ln_17, ln_18, ln_19, ln_20, no_s, no_n, hz]))); (all_goals (try simp only [decide_eq_true_eq, decide_eq_false_iff_not] at *)))
      · exact ⟨d5, s4.trans s5, a4.same s5 hb, s5.get g4 nij, ys ++ [c], by simp, sub.append (List.Sublist.refl _)⟩
      · exact ⟨d5, s4.trans s5, a4.same s5 hb, s5.get g4 nij, ys, rfl, sub.trans (List.sublist_append_left _ _)⟩
    rintro acc h4 ⟨d4, s4, a4, g4, sg, rfl, subs⟩
    have lls := subs.length_le
    refine ⟨by simp [maxLen] at lls ⊢; omega, ?_⟩
    simp only [List.length_cons, List.length_nil] at lls
    simp -dsimp -failIfUnchanged only [↓wsq_n, ↓wsq_r, ↓wfin_n, ↓wfin_r, ↓ws_nil, ↓ws_cons, ↓ws_expr, ↓ws_set, ↓ws_ret, ↓ws_iff, ↓ws_pass, ↓ws_fb, ↓ws_for, ↓ws_while, ↓ws_wc, ↓ws_wb, ↓wt_tup, ↓wt_nil, ↓wt_cons, ↓wt_sub, ↓wt_fld, ↓we_slot, ↓we_lit, ↓we_op, ↓we_cmp, ↓we_chain, ↓we_nt, ↓we_neg, ↓we_an, ↓we_orr, ↓we_ite, ↓we_tup, ↓we_lst, ↓we_dct, ↓we_sub, ↓we_slc, ↓we_rev, ↓we_fld, ↓we_call, ↓wmk_n, ↓we_mk, ↓we_meth, ↓we_blt, ↓we_bm, ↓we_lc, ↓wes_nil, ↓wes_cons, ↓wes_star, ↓wts_nil, ↓wts_cons, ↓wo_none, ↓wo_some, ↓wi_e, ↓wi_r1, ↓wi_r2, ↓wi_enum, ↓wi_enumS, ↓wi_zip, ↓wnx_n, ↓wnx_r, ↓blq, ↓v_kindS, ↓wb_join, ↓wb_app, ↓wb_pop, ↓wb_ext, ↓wo_lift, ↓x_name, ↓x_lb, ↓x_aug, ↓x_isi, ↓v_isI, ↓v_isB, ↓v_isS, ↓v_isT, ↓v_lenT, ↓v_int, ↓v_max2, ↓v_all, ↓v_any, ↓v_tupL, ↓v_disp0, ↓wk_ok, ↓wo_s, ↓wp_s, ↓wi_i, ↓v_slot0, ↓v_slotS, ↓ss_0, ↓ss_S, ↓sr_n, ↓sr_c, ↓sw_n, ↓sw_c, ↓v_opI, ↓v_add, ↓v_sub, ↓v_tr, ↓v_trO, ↓wf_t, ↓wf_f, ↓v_ix0, ↓v_ix1, ↓v_ix2, ↓v_ix3, ↓v_ix4, ↓v_ix5, ↓v_src, ↓v_perm, ↓wn_0, ↓wn_S, ↓wn_a0, ↓wn_aS, ↓wn_an, ↓dr_n, ↓dr_c, ↓wr_n, ↓wr_c, c_eqI, c_neI, c_ltI, c_gtI, c_leI, c_geI, d_ltI, d_gtI, d_leI, d_geI, c_isN, c_isntN, kindS, items_tup, true_and, and_true, ln_0, ln_1, ln_2, ln_3, ln_4, ln_5, ln_6, ln_7, ln_8, ln_9, ln_10, ln_11, ln_12, ln_13, ln_14, ln_15, ln_16, ln_17, ln_18, ln_19, ln_20, join_new (sg := sg) (h := h4) (by omega)]
    have d5 := d4.same (same_new (c := .lst (sg.map sgD)))
    have s5 := s4.new (c := .lst (sg.map sgD))
    have a5 := a4.same (same_new (c := .lst (sg.map sgD))) (by simp)
    generalize h4 ++ [C.lst (sg.map sgD)] = h5 at d5 s5 a5 ⊢
    clear d4 s4 a4 g4
    have hx1 : x1 < sp.length := by omega
    have sub1 : ∀ h', subD h' (.tup (sp.map .int)) (.int (x1 : Nat)) = some (.int sp[x1]) := fun h' => by rw [sub_nat, List.getElem?_map, List.getElem?_eq_getElem hx1]; rfl
    refine ⟨by simp [okRange], ?_⟩
    refine w_pure natD (List.range 3) (fun r => if !decide ((r : Int) = sp[x1]) then some (natD r) else none) (by simp [maxLen]) (fun h1 s1 => at_range) ?_ ?_
    · intro r h1 Q1 hr s1 q1
      simp -dsimp -failIfUnchanged only [↓wsq_n, ↓wsq_r, ↓wfin_n, ↓wfin_r, ↓ws_nil, ↓ws_cons, ↓ws_expr, ↓ws_set, ↓ws_ret, ↓ws_iff, ↓ws_pass, ↓ws_fb, ↓ws_for, ↓ws_while, ↓ws_wc, ↓ws_wb, ↓wt_tup, ↓wt_nil, ↓wt_cons, ↓wt_sub, ↓wt_fld, ↓we_slot, ↓we_lit, ↓we_op, ↓we_cmp, ↓we_chain, ↓we_nt, ↓we_neg, ↓we_an, ↓we_orr, ↓we_ite, ↓we_tup, ↓we_lst, ↓we_dct, ↓we_sub, ↓we_slc, ↓we_rev, ↓we_fld, ↓we_call, ↓wmk_n, ↓we_mk, ↓we_meth, ↓we_blt, ↓we_bm, ↓we_lc, ↓wes_nil, ↓wes_cons, ↓wes_star, ↓wts_nil, ↓wts_cons, ↓wo_none, ↓wo_some, ↓wi_e, ↓wi_r1, ↓wi_r2, ↓wi_enum, ↓wi_enumS, ↓wi_zip, ↓wnx_n, ↓wnx_r, ↓blq, ↓v_kindS, ↓wb_join, ↓wb_app, ↓wb_pop, ↓wb_ext, ↓wo_lift, ↓x_name, ↓x_lb, ↓x_aug, ↓x_isi, ↓v_isI, ↓v_isB, ↓v_isS, ↓v_isT, ↓v_lenT, ↓v_int, ↓v_max2, ↓v_all, ↓v_any, ↓v_tupL, ↓v_disp0, ↓wk_ok, ↓wo_s, ↓wp_s, ↓wi_i, ↓v_slot0, ↓v_slotS, ↓ss_0, ↓ss_S, ↓sr_n, ↓sr_c, ↓sw_n, ↓sw_c, ↓v_opI, ↓v_add, ↓v_sub, ↓v_tr, ↓v_trO, ↓wf_t, ↓wf_f, ↓v_ix0, ↓v_ix1, ↓v_ix2, ↓v_ix3, ↓v_ix4, ↓v_ix5, ↓v_src, ↓v_perm, ↓wn_0, ↓wn_S, ↓wn_a0, ↓wn_aS, ↓wn_an, ↓dr_n, ↓dr_c, ↓wr_n, ↓wr_c, c_eqI, c_neI, c_ltI, c_gtI, c_leI, c_geI, d_ltI, d_gtI, d_leI, d_geI, c_isN, c_isntN, kindS, items_tup, true_and, and_true, ln_0, ln_1, ln_2, ln_3, ln_4, ln_5, ln_6, ln_7, ln_8, ln_9, ln_10, ln_11, ln_12, ln_13, ln_14, ln_15, ln_16, ln_17, ln_18, ln_19, ln_20, sub1, c_neI]
      refine wf_i (fun e => ?_) (fun e => ?_)
      · simp -dsimp -failIfUnchanged only [↓wsq_n, ↓wsq_r, ↓wfin_n, ↓wfin_r, ↓ws_nil, ↓ws_cons, ↓ws_expr, ↓ws_set, ↓ws_ret, ↓ws_iff, ↓ws_pass, ↓ws_fb, ↓ws_for, ↓ws_while, ↓ws_wc, ↓ws_wb, ↓wt_tup, ↓wt_nil, ↓wt_cons, ↓wt_sub, ↓wt_fld, ↓we_slot, ↓we_lit, ↓we_op, ↓we_cmp, ↓we_chain, ↓we_nt, ↓we_neg, ↓we_an, ↓we_orr, ↓we_ite, ↓we_tup, ↓we_lst, ↓we_dct, ↓we_sub, ↓we_slc, ↓we_rev, ↓we_fld, ↓we_call, ↓wmk_n, ↓we_mk, ↓we_meth, ↓we_blt, ↓we_bm, ↓we_lc, ↓wes_nil, ↓wes_cons, ↓wes_star, ↓wts_nil, ↓wts_cons, ↓wo_none, ↓wo_some, ↓wi_e, ↓wi_r1, ↓wi_r2, ↓wi_enum, ↓wi_enumS, ↓wi_zip, ↓wnx_n, ↓wnx_r, ↓blq, ↓v_kindS, ↓wb_join, ↓wb_app, ↓wb_pop, ↓wb_ext, ↓wo_lift, ↓x_name, ↓x_lb, ↓x_aug, ↓x_isi, ↓v_isI, ↓v_isB, ↓v_isS, ↓v_isT, ↓v_lenT, ↓v_int, ↓v_max2, ↓v_all, ↓v_any, ↓v_tupL, ↓v_disp0, ↓wk_ok, ↓wo_s, ↓wp_s, ↓wi_i, ↓v_slot0, ↓v_slotS, ↓ss_0, ↓ss_S, ↓sr_n, ↓sr_c, ↓sw_n, ↓sw_c, ↓v_opI, ↓v_add, ↓v_sub, ↓v_tr, ↓v_trO, ↓wf_t, ↓wf_f, ↓v_ix0, ↓v_ix1, ↓v_ix2, ↓v_ix3, ↓v_ix4, ↓v_ix5, ↓v_src, ↓v_perm, ↓wn_0, ↓wn_S, ↓wn_a0, ↓wn_aS, ↓wn_an, ↓dr_n, ↓dr_c, ↓wr_n, ↓wr_c, c_eqI, c_neI, c_ltI, c_gtI, c_leI, c_geI, d_ltI, d_gtI, d_leI, d_geI, c_isN, c_isntN, kindS, items_tup, true_and, and_true, ln_0, ln_1, ln_2, ln_3, ln_4, ln_5, ln_6, ln_7, ln_8, ln_9, ln_10, ln_11, ln_12, ln_13, ln_14, ln_15, ln_16, ln_17, ln_18, ln_19, ln_20]
        rw [if_pos e] at q1
        exact q1 _ Same.refl
      · rw [if_neg (by rw [e]; simp)] at q1
        exact q1 _ Same.refl
    · intro h6 s6
      rw [filterMap_if]
      show _ 
      rw [show (List.range 3).filter (fun (r : Nat) => !decide ((r : Int) = sp[x1])) = oth sp[x1] from rfl]
      obtain ⟨h7, ol, e7, eol, s7, g7⟩ := new_ex h6 (.lst ((oth sp[x1]).map natD))
      rw [← e7, ← eol]
      have d7 := (d5.same s6).same s7
      have s57 := (s5.trans s6.wide).trans s7.wide
      have a7 := a5.same (s6.trans s7) (by simp)
      have l7 : h.length ≤ ol := by have := (s5.trans s6.wide).1; omega
      clear d5 s5 a5 s6 s7 e7 eol
      simp -dsimp -failIfUnchanged only [↓wsq_n, ↓wsq_r, ↓wfin_n, ↓wfin_r, ↓ws_nil, ↓ws_cons, ↓ws_expr, ↓ws_set, ↓ws_ret, ↓ws_iff, ↓ws_pass, ↓ws_fb, ↓ws_for, ↓ws_while, ↓ws_wc, ↓ws_wb, ↓wt_tup, ↓wt_nil, ↓wt_cons, ↓wt_sub, ↓wt_fld, ↓we_slot, ↓we_lit, ↓we_op, ↓we_cmp, ↓we_chain, ↓we_nt, ↓we_neg, ↓we_an, ↓we_orr, ↓we_ite, ↓we_tup, ↓we_lst, ↓we_dct, ↓we_sub, ↓we_slc, ↓we_rev, ↓we_fld, ↓we_call, ↓wmk_n, ↓we_mk, ↓we_meth, ↓we_blt, ↓we_bm, ↓we_lc, ↓wes_nil, ↓wes_cons, ↓wes_star, ↓wts_nil, ↓wts_cons, ↓wo_none, ↓wo_some, ↓wi_e, ↓wi_r1, ↓wi_r2, ↓wi_enum, ↓wi_enumS, ↓wi_zip, ↓wnx_n, ↓wnx_r, ↓blq, ↓v_kindS, ↓wb_join, ↓wb_app, ↓wb_pop, ↓wb_ext, ↓wo_lift, ↓x_name, ↓x_lb, ↓x_aug, ↓x_isi, ↓v_isI, ↓v_isB, ↓v_isS, ↓v_isT, ↓v_lenT, ↓v_int, ↓v_max2, ↓v_all, ↓v_any, ↓v_tupL, ↓v_disp0, ↓wk_ok, ↓wo_s, ↓wp_s, ↓wi_i, ↓v_slot0, ↓v_slotS, ↓ss_0, ↓ss_S, ↓sr_n, ↓sr_c, ↓sw_n, ↓sw_c, ↓v_opI, ↓v_add, ↓v_sub, ↓v_tr, ↓v_trO, ↓wf_t, ↓wf_f, ↓v_ix0, ↓v_ix1, ↓v_ix2, ↓v_ix3, ↓v_ix4, ↓v_ix5, ↓v_src, ↓v_perm, ↓wn_0, ↓wn_S, ↓wn_a0, ↓wn_aS, ↓wn_an, ↓dr_n, ↓dr_c, ↓wr_n, ↓wr_c, c_eqI, c_neI, c_ltI, c_gtI, c_leI, c_geI, d_ltI, d_gtI, d_leI, d_geI, c_isN, c_isntN, kindS, items_tup, true_and, and_true, ln_0, ln_1, ln_2, ln_3, ln_4, ln_5, ln_6, ln_7, ln_8, ln_9, ln_10, ln_11, ln_12, ln_13, ln_14, ln_15, ln_16, ln_17, ln_18, ln_19, ln_20]
      refine ⟨by simp [okRange], ?_⟩
      -- the two looks
      refine w_comp natD (List.range 2) (fun a r acc h' => Deck h' i j ∧ Same h h' [i, j] ∧ AtW h' w h.length ⟨sp, st, be, [], []⟩ ls lk ll ∧ h'[ol]? = some (.lst ((oth sp[x1]).map natD)) ∧ ∃ yss : List (List Nat), acc = yss.map (fun ys => .tup (ys.map natD)) ∧ yss.length = a.length ∧ ∀ ys ∈ yss, ys.Sublist (oth sp[x1])) (fun a r acc h1 e z => at_range) ?_ ?_ ⟨d7, s57, a7, g7, [], rfl, rfl, by simp⟩
      · rintro a x r acc h' e ⟨d8, s8, a8, g8, yss, rfl, ly, hy⟩
        simp -dsimp -failIfUnchanged only [↓wsq_n, ↓wsq_r, ↓wfin_n, ↓wfin_r, ↓ws_nil, ↓ws_cons, ↓ws_expr, ↓ws_set, ↓ws_ret, ↓ws_iff, ↓ws_pass, ↓ws_fb, ↓ws_for, ↓ws_while, ↓ws_wc, ↓ws_wb, ↓wt_tup, ↓wt_nil, ↓wt_cons, ↓wt_sub, ↓wt_fld, ↓we_slot, ↓we_lit, ↓we_op, ↓we_cmp, ↓we_chain, ↓we_nt, ↓we_neg, ↓we_an, ↓we_orr, ↓we_ite, ↓we_tup, ↓we_lst, ↓we_dct, ↓we_sub, ↓we_slc, ↓we_rev, ↓we_fld, ↓we_call, ↓wmk_n, ↓we_mk, ↓we_meth, ↓we_blt, ↓we_bm, ↓we_lc, ↓wes_nil, ↓wes_cons, ↓wes_star, ↓wts_nil, ↓wts_cons, ↓wo_none, ↓wo_some, ↓wi_e, ↓wi_r1, ↓wi_r2, ↓wi_enum, ↓wi_enumS, ↓wi_zip, ↓wnx_n, ↓wnx_r, ↓blq, ↓v_kindS, ↓wb_join, ↓wb_app, ↓wb_pop, ↓wb_ext, ↓wo_lift, ↓x_name, ↓x_lb, ↓x_aug, ↓x_isi, ↓v_isI, ↓v_isB, ↓v_isS, ↓v_isT, ↓v_lenT, ↓v_int, ↓v_max2, ↓v_all, ↓v_any, ↓v_tupL, ↓v_disp0, ↓wk_ok, ↓wo_s, ↓wp_s, ↓wi_i, ↓v_slot0, ↓v_slotS, ↓ss_0, ↓ss_S, ↓sr_n, ↓sr_c, ↓sw_n, ↓sw_c, ↓v_opI, ↓v_add, ↓v_sub, ↓v_tr, ↓v_trO, ↓wf_t, ↓wf_f, ↓v_ix0, ↓v_ix1, ↓v_ix2, ↓v_ix3, ↓v_ix4, ↓v_ix5, ↓v_src, ↓v_perm, ↓wn_0, ↓wn_S, ↓wn_a0, ↓wn_aS, ↓wn_an, ↓dr_n, ↓dr_c, ↓wr_n, ↓wr_c, c_eqI, c_neI, c_ltI, c_gtI, c_leI, c_geI, d_ltI, d_gtI, d_leI, d_geI, c_isN, c_isntN, kindS, items_tup, true_and, and_true, ln_0, ln_1, ln_2, ln_3, ln_4, ln_5, ln_6, ln_7, ln_8, ln_9, ln_10, ln_11, ln_12, ln_13, ln_14, ln_15, ln_16, ln_17, ln_18, ln_19, ln_20, src_lst (lst_get g8)]
        refine w_comp natD (oth sp[x1]) (fun a r acc h' => Deck h' i j ∧ Same h h' [i, j] ∧ AtW h' w h.length ⟨sp, st, be, [], []⟩ ls lk ll ∧ h'[ol]? = some (.lst ((oth sp[x1]).map natD)) ∧ ∃ ys : List Nat, acc = ys.map natD ∧ ys.Sublist a) (fun a r acc h1 e z => at_cell (by simp) (lst_get z.2.2.2.1)) ?_ ?_ ⟨d8, s8, a8, g8, [], rfl, List.Sublist.refl _⟩
        · rintro a c r acc h' e ⟨d4, s4, a4, g4, ys, rfl, sub⟩
          simp -dsimp -failIfUnchanged only [↓wsq_n, ↓wsq_r, ↓wfin_n, ↓wfin_r, ↓ws_nil, ↓ws_cons, ↓ws_expr, ↓ws_set, ↓ws_ret, ↓ws_iff, ↓ws_pass, ↓ws_fb, ↓ws_for, ↓ws_while, ↓ws_wc, ↓ws_wb, ↓wt_tup, ↓wt_nil, ↓wt_cons, ↓wt_sub, ↓wt_fld, ↓we_slot, ↓we_lit, ↓we_op, ↓we_cmp, ↓we_chain, ↓we_nt, ↓we_neg, ↓we_an, ↓we_orr, ↓we_ite, ↓we_tup, ↓we_lst, ↓we_dct, ↓we_sub, ↓we_slc, ↓we_rev, ↓we_fld, ↓we_call, ↓wmk_n, ↓we_mk, ↓we_meth, ↓we_blt, ↓we_bm, ↓we_lc, ↓wes_nil, ↓wes_cons, ↓wes_star, ↓wts_nil, ↓wts_cons, ↓wo_none, ↓wo_some, ↓wi_e, ↓wi_r1, ↓wi_r2, ↓wi_enum, ↓wi_enumS, ↓wi_zip, ↓wnx_n, ↓wnx_r, ↓blq, ↓v_kindS, ↓wb_join, ↓wb_app, ↓wb_pop, ↓wb_ext, ↓wo_lift, ↓x_name, ↓x_lb, ↓x_aug, ↓x_isi, ↓v_isI, ↓v_isB, ↓v_isS, ↓v_isT, ↓v_lenT, ↓v_int, ↓v_max2, ↓v_all, ↓v_any, ↓v_tupL, ↓v_disp0, ↓wk_ok, ↓wo_s, ↓wp_s, ↓wi_i, ↓v_slot0, ↓v_slotS, ↓ss_0, ↓ss_S, ↓sr_n, ↓sr_c, ↓sw_n, ↓sw_c, ↓v_opI, ↓v_add, ↓v_sub, ↓v_tr, ↓v_trO, ↓wf_t, ↓wf_f, ↓v_ix0, ↓v_ix1, ↓v_ix2, ↓v_ix3, ↓v_ix4, ↓v_ix5, ↓v_src, ↓v_perm, ↓wn_0, ↓wn_S, ↓wn_a0, ↓wn_aS, ↓wn_an, ↓dr_n, ↓dr_c, ↓wr_n, ↓wr_c, c_eqI, c_neI, c_ltI, c_gtI, c_leI, c_geI, d_ltI, d_gtI, d_leI, d_geI, c_isN, c_isntN, kindS, items_tup, true_and, and_true, ln_0, ln_1, ln_2, ln_3, ln_4, ln_5, ln_6, ln_7, ln_8, ln_9, ln_10, ln_11, ln_12, ln_13, ln_14, ln_15, ln_16, ln_17, ln_18, ln_19, ln_20]
          refine Ldraw_ok (by omega) d4 fun n h5 ln d5 s5 => ?_
          have nij : ol ∉ [i, j] := by simp; omega
          ((try simp -dsimp -failIfUnchanged only [↓wsq_n, ↓wsq_r, ↓wfin_n, ↓wfin_r, ↓ws_nil, ↓ws_cons, ↓ws_expr, ↓ws_set, ↓ws_ret, ↓ws_iff, ↓ws_pass, ↓ws_fb, ↓ws_for, ↓ws_while, ↓ws_wc, ↓ws_wb, ↓wt_tup, ↓wt_nil, ↓wt_cons, ↓wt_sub, ↓wt_fld, ↓we_slot, ↓we_lit, ↓we_op, ↓we_cmp, ↓we_chain, ↓we_nt, ↓we_neg, ↓we_an, ↓we_orr, ↓we_ite, ↓we_tup, ↓we_lst, ↓we_dct, ↓we_sub, ↓we_slc, ↓we_rev, ↓we_fld, ↓we_call, ↓wmk_n, ↓we_mk, ↓we_meth, ↓we_blt, ↓we_bm, ↓we_lc, ↓wes_nil, ↓wes_cons, ↓wes_star, ↓wts_nil, ↓wts_cons, ↓wo_none, ↓wo_some, ↓wi_e, ↓wi_r1, ↓wi_r2, ↓wi_enum, ↓wi_enumS, ↓wi_zip, ↓wnx_n, ↓wnx_r, ↓blq, ↓v_kindS, ↓wb_join, ↓wb_app, ↓wb_pop, ↓wb_ext, ↓wo_lift, ↓x_name, ↓x_lb, ↓x_aug, ↓x_isi, ↓v_isI, ↓v_isB, ↓v_isS, ↓v_isT, ↓v_lenT, ↓v_int, ↓v_max2, ↓v_all, ↓v_any, ↓v_tupL, ↓v_disp0, ↓wk_ok, ↓wo_s, ↓wp_s, ↓wi_i, ↓v_slot0, ↓v_slotS, ↓ss_0, ↓ss_S, ↓sr_n, ↓sr_c, ↓sw_n, ↓sw_c, ↓v_opI, ↓v_add, ↓v_sub, ↓v_tr, ↓v_trO, ↓wf_t, ↓wf_f, ↓v_ix0, ↓v_ix1, ↓v_ix2, ↓v_ix3, ↓v_ix4, ↓v_ix5, ↓v_src, ↓v_perm, ↓wn_0, ↓wn_S, ↓wn_a0, ↓wn_aS, ↓wn_an, ↓dr_n, ↓dr_c, ↓wr_n, ↓wr_c, c_eqI, c_neI, c_ltI, c_gtI, c_leI, c_geI, d_ltI, d_gtI, d_leI, d_geI, c_isN, c_isntN, kindS, items_tup, true_and, and_true, ln_0, ln_1, ln_2, ln_3, ln_4, ln_5, ln_6, ln_7, ln_8, ln_9, ln_10, ln_11, ln_12, ln_13, ln_14, ln_15, ln_16, ln_17, ln_18, ln_19, ln_20, no_s, no_n]); (repeat' (refine wf_i (fun hz => ?_) (fun hz => ?_) <;> (try simp -dsimp -failIfUnchanged only [↓wsq_n, ↓wsq_r, ↓wfin_n, ↓wfin_r, ↓ws_nil, ↓ws_cons, ↓ws_expr, ↓ws_set, ↓ws_ret, ↓ws_iff, ↓ws_pass, ↓ws_fb, ↓ws_for, ↓ws_while, ↓ws_wc, ↓ws_wb, ↓wt_tup, ↓wt_nil, ↓wt_cons, ↓wt_sub, ↓wt_fld, ↓we_slot, ↓we_lit, ↓we_op, ↓we_cmp, ↓we_chain, ↓we_nt, ↓we_neg, ↓we_an, ↓we_orr, ↓we_ite, ↓we_tup, ↓we_lst, ↓we_dct, ↓we_sub, ↓we_slc, ↓we_rev, ↓we_fld, ↓we_call, ↓wmk_n, ↓we_mk, ↓we_meth, ↓we_blt, ↓we_bm, ↓we_lc, ↓wes_nil, ↓wes_cons, ↓wes_star, ↓wts_nil, ↓wts_cons, ↓wo_none, ↓wo_some, ↓wi_e, ↓wi_r1, ↓wi_r2, ↓wi_enum, ↓wi_enumS, ↓wi_zip, ↓wnx_n, ↓wnx_r, ↓blq, ↓v_kindS, ↓wb_join, ↓wb_app, ↓wb_pop, ↓wb_ext, ↓wo_lift, ↓x_name, ↓x_lb, ↓x_aug, ↓x_isi, ↓v_isI, ↓v_isB, ↓v_isS, ↓v_isT, ↓v_lenT, ↓v_int, ↓v_max2, ↓v_all, ↓v_any, ↓v_tupL, ↓v_disp0, ↓wk_ok, ↓wo_s, ↓wp_s, ↓wi_i, ↓v_slot0, ↓v_slotS, ↓ss_0, ↓ss_S, ↓sr_n, ↓sr_c, ↓sw_n, ↓sw_c, ↓v_opI, ↓v_add, ↓v_sub, ↓v_tr, ↓v_trO, ↓wf_t, ↓wf_f, ↓v_ix0, ↓v_ix1, ↓v_ix2, ↓v_ix3, ↓v_ix4, ↓v_ix5, ↓v_src, ↓v_perm, ↓wn_0, ↓wn_S, ↓wn_a0, ↓wn_aS, ↓wn_an, ↓dr_n, ↓dr_c, ↓wr_n, ↓wr_c, c_eqI, c_neI, c_ltI, c_gtI, c_leI, c_geI, d_ltI, d_gtI, d_leI, d_geI, c_isN, c_isntN, kindS, items_tup, true_and, and_true, ln_0, ln_1, ln_2, ln_3, ln_4, ln_5, ln_6, ln_7, ln_8, ln_9, ln_10, ln_11, ln_12, ln_13, ln_14, ln_15, ln_16, ln_17, ln_18, ln_19, ln_20, no_s, no_n, hz]))); (all_goals (try simp only [decide_eq_true_eq, decide_eq_false_iff_not] at *)))
          · exact ⟨d5, s4.trans s5, a4.same s5 hb, s5.get g4 nij, ys ++ [c], by simp, sub.append (List.Sublist.refl _)⟩
          · exact ⟨d5, s4.trans s5, a4.same s5 hb, s5.get g4 nij, ys, rfl, sub.trans (List.sublist_append_left _ _)⟩
        · rintro acc h9 ⟨d9, s9, a9, g9, ys, rfl, sub⟩
          have lys : ys.length ≤ 3 := Nat.le_trans sub.length_le (by simpa [oth] using List.length_filter_le (fun (r : Nat) => !decide ((r : Int) = sp[x1])) (List.range 3))
          refine ⟨by simp [maxLen]; omega, ?_⟩
          simp -dsimp -failIfUnchanged only [↓wsq_n, ↓wsq_r, ↓wfin_n, ↓wfin_r, ↓ws_nil, ↓ws_cons, ↓ws_expr, ↓ws_set, ↓ws_ret, ↓ws_iff, ↓ws_pass, ↓ws_fb, ↓ws_for, ↓ws_while, ↓ws_wc, ↓ws_wb, ↓wt_tup, ↓wt_nil, ↓wt_cons, ↓wt_sub, ↓wt_fld, ↓we_slot, ↓we_lit, ↓we_op, ↓we_cmp, ↓we_chain, ↓we_nt, ↓we_neg, ↓we_an, ↓we_orr, ↓we_ite, ↓we_tup, ↓we_lst, ↓we_dct, ↓we_sub, ↓we_slc, ↓we_rev, ↓we_fld, ↓we_call, ↓wmk_n, ↓we_mk, ↓we_meth, ↓we_blt, ↓we_bm, ↓we_lc, ↓wes_nil, ↓wes_cons, ↓wes_star, ↓wts_nil, ↓wts_cons, ↓wo_none, ↓wo_some, ↓wi_e, ↓wi_r1, ↓wi_r2, ↓wi_enum, ↓wi_enumS, ↓wi_zip, ↓wnx_n, ↓wnx_r, ↓blq, ↓v_kindS, ↓wb_join, ↓wb_app, ↓wb_pop, ↓wb_ext, ↓wo_lift, ↓x_name, ↓x_lb, ↓x_aug, ↓x_isi, ↓v_isI, ↓v_isB, ↓v_isS, ↓v_isT, ↓v_lenT, ↓v_int, ↓v_max2, ↓v_all, ↓v_any, ↓v_tupL, ↓v_disp0, ↓wk_ok, ↓wo_s, ↓wp_s, ↓wi_i, ↓v_slot0, ↓v_slotS, ↓ss_0, ↓ss_S, ↓sr_n, ↓sr_c, ↓sw_n, ↓sw_c, ↓v_opI, ↓v_add, ↓v_sub, ↓v_tr, ↓v_trO, ↓wf_t, ↓wf_f, ↓v_ix0, ↓v_ix1, ↓v_ix2, ↓v_ix3, ↓v_ix4, ↓v_ix5, ↓v_src, ↓v_perm, ↓wn_0, ↓wn_S, ↓wn_a0, ↓wn_aS, ↓wn_an, ↓dr_n, ↓dr_c, ↓wr_n, ↓wr_c, c_eqI, c_neI, c_ltI, c_gtI, c_leI, c_geI, d_ltI, d_gtI, d_leI, d_geI, c_isN, c_isntN, kindS, items_tup, true_and, and_true, ln_0, ln_1, ln_2, ln_3, ln_4, ln_5, ln_6, ln_7, ln_8, ln_9, ln_10, ln_11, ln_12, ln_13, ln_14, ln_15, ln_16, ln_17, ln_18, ln_19, ln_20, no_s]
          exact ⟨d9.same same_new, s9.new, a9.same same_new (by simp), same_new.get0 g9, yss ++ [ys], by simp, by simp [ly], fun z hz => by
            rcases List.mem_append.mp hz with hz | hz
            · exact hy z hz
            · rw [List.mem_singleton.mp hz]; exact sub⟩
      rintro acc h8 ⟨d8, s8, a8, g8, yss, rfl, ly, hy⟩
      simp only [List.length_range] at ly
      obtain ⟨lo1, lo2, rfl⟩ : ∃ a b, yss = [a, b] := by
        match yss, ly with
        | [a, b], _ => exact ⟨a, b, rfl⟩
      refine ⟨by simp [maxLen], ?_⟩
      simp -dsimp -failIfUnchanged only [↓wsq_n, ↓wsq_r, ↓wfin_n, ↓wfin_r, ↓ws_nil, ↓ws_cons, ↓ws_expr, ↓ws_set, ↓ws_ret, ↓ws_iff, ↓ws_pass, ↓ws_fb, ↓ws_for, ↓ws_while, ↓ws_wc, ↓ws_wb, ↓wt_tup, ↓wt_nil, ↓wt_cons, ↓wt_sub, ↓wt_fld, ↓we_slot, ↓we_lit, ↓we_op, ↓we_cmp, ↓we_chain, ↓we_nt, ↓we_neg, ↓we_an, ↓we_orr, ↓we_tup, ↓we_lst, ↓we_dct, ↓we_sub, ↓we_slc, ↓we_rev, ↓we_fld, ↓we_call, ↓wmk_n, ↓we_mk, ↓we_meth, ↓we_blt, ↓we_bm, ↓we_lc, ↓wes_nil, ↓wes_cons, ↓wes_star, ↓wts_nil, ↓wts_cons, ↓wo_none, ↓wo_some, ↓wi_e, ↓wi_r1, ↓wi_r2, ↓wi_enum, ↓wi_enumS, ↓wi_zip, ↓wnx_n, ↓wnx_r, ↓blq, ↓v_kindS, ↓wb_join, ↓wb_app, ↓wb_pop, ↓wb_ext, ↓wo_lift, ↓x_name, ↓x_lb, ↓x_aug, ↓x_isi, ↓v_isI, ↓v_isB, ↓v_isS, ↓v_isT, ↓v_lenT, ↓v_int, ↓v_max2, ↓v_all, ↓v_any, ↓v_tupL, ↓v_disp0, ↓wk_ok, ↓wo_s, ↓wp_s, ↓wi_i, ↓v_slot0, ↓v_slotS, ↓ss_0, ↓ss_S, ↓sr_n, ↓sr_c, ↓sw_n, ↓sw_c, ↓v_opI, ↓v_add, ↓v_sub, ↓v_tr, ↓v_trO, ↓wf_t, ↓wf_f, ↓v_ix0, ↓v_ix1, ↓v_ix2, ↓v_ix3, ↓v_ix4, ↓v_ix5, ↓v_src, ↓v_perm, ↓wn_0, ↓wn_S, ↓wn_a0, ↓wn_aS, ↓wn_an, ↓dr_n, ↓dr_c, ↓wr_n, ↓wr_c, c_eqI, c_neI, c_ltI, c_gtI, c_leI, c_geI, d_ltI, d_gtI, d_leI, d_geI, c_isN, c_isntN, kindS, items_tup, true_and, and_true, ln_0, ln_1, ln_2, ln_3, ln_4, ln_5, ln_6, ln_7, ln_8, ln_9, ln_10, ln_11, ln_12, ln_13, ln_14, ln_15, ln_16, ln_17, ln_18, ln_19, ln_20, List.map_cons, List.map_nil]
      obtain ⟨h9, lk9, e9, el9, s89, g9⟩ := new_ex h8 (.lst [.tup (lo1.map natD), .tup (lo2.map natD)])
      rw [← e9, ← el9]
      have d9 := d8.same s89
      have s9 := s8.trans s89.wide
      have a9 := a8.same s89 (by simp)
      have l9 : h.length ≤ lk9 := by have := s8.1; omega
      have n9 : lk9 ∉ [i, j] := by simp; omega
      clear e9 el9 s89 d8 s8 a8 g8 d7 s57 a7 g7
      refine w_mono (Q' := fun dd h' => ∃ sn : List Nat, dd = .tup (sn.map natD) ∧ sn.Sublist (List.range nk) ∧ Deck h' i j ∧ Same h h' [i, j] ∧ AtW h' w h.length ⟨sp, st, be, [], []⟩ ls lk ll ∧ h'[lk9]? = some (.lst [.tup (lo1.map natD), .tup (lo2.map natD)])) ?_ ?_
      · simp -dsimp -failIfUnchanged only [↓wsq_n, ↓wsq_r, ↓wfin_n, ↓wfin_r, ↓ws_nil, ↓ws_cons, ↓ws_expr, ↓ws_set, ↓ws_ret, ↓ws_iff, ↓ws_pass, ↓ws_fb, ↓ws_for, ↓ws_while, ↓ws_wc, ↓ws_wb, ↓wt_tup, ↓wt_nil, ↓wt_cons, ↓wt_sub, ↓wt_fld, ↓we_slot, ↓we_lit, ↓we_op, ↓we_cmp, ↓we_chain, ↓we_nt, ↓we_neg, ↓we_an, ↓we_orr, ↓we_ite, ↓we_tup, ↓we_lst, ↓we_dct, ↓we_sub, ↓we_slc, ↓we_rev, ↓we_fld, ↓we_call, ↓wmk_n, ↓we_mk, ↓we_meth, ↓we_blt, ↓we_bm, ↓we_lc, ↓wes_nil, ↓wes_cons, ↓wes_star, ↓wts_nil, ↓wts_cons, ↓wo_none, ↓wo_some, ↓wi_e, ↓wi_r1, ↓wi_r2, ↓wi_enum, ↓wi_enumS, ↓wi_zip, ↓wnx_n, ↓wnx_r, ↓blq, ↓v_kindS, ↓wb_join, ↓wb_app, ↓wb_pop, ↓wb_ext, ↓wo_lift, ↓x_name, ↓x_lb, ↓x_aug, ↓x_isi, ↓v_isI, ↓v_isB, ↓v_isS, ↓v_isT, ↓v_lenT, ↓v_int, ↓v_max2, ↓v_all, ↓v_any, ↓v_tupL, ↓v_disp0, ↓wk_ok, ↓wo_s, ↓wp_s, ↓wi_i, ↓v_slot0, ↓v_slotS, ↓ss_0, ↓ss_S, ↓sr_n, ↓sr_c, ↓sw_n, ↓sw_c, ↓v_opI, ↓v_add, ↓v_sub, ↓v_tr, ↓v_trO, ↓wf_t, ↓wf_f, ↓v_ix0, ↓v_ix1, ↓v_ix2, ↓v_ix3, ↓v_ix4, ↓v_ix5, ↓v_src, ↓v_perm, ↓wn_0, ↓wn_S, ↓wn_a0, ↓wn_aS, ↓wn_an, ↓dr_n, ↓dr_c, ↓wr_n, ↓wr_c, c_eqI, c_neI, c_ltI, c_gtI, c_leI, c_geI, d_ltI, d_gtI, d_leI, d_geI, c_isN, c_isntN, kindS, items_tup, true_and, and_true, ln_0, ln_1, ln_2, ln_3, ln_4, ln_5, ln_6, ln_7, ln_8, ln_9, ln_10, ln_11, ln_12, ln_13, ln_14, ln_15, ln_16, ln_17, ln_18, ln_19, ln_20]
        refine Ldraw_ok (by omega) d9 fun n h10 ln d10 s10 => ?_
        have a10 := a9.same s10 hb
        have s10' := s9.trans s10
        have g10 := s10.get g9 n9
        simp -dsimp -failIfUnchanged only [↓wsq_n, ↓wsq_r, ↓wfin_n, ↓wfin_r, ↓ws_nil, ↓ws_cons, ↓ws_expr, ↓ws_set, ↓ws_ret, ↓ws_iff, ↓ws_pass, ↓ws_fb, ↓ws_for, ↓ws_while, ↓ws_wc, ↓ws_wb, ↓wt_tup, ↓wt_nil, ↓wt_cons, ↓wt_sub, ↓wt_fld, ↓we_slot, ↓we_lit, ↓we_op, ↓we_cmp, ↓we_chain, ↓we_nt, ↓we_neg, ↓we_an, ↓we_orr, ↓we_ite, ↓we_tup, ↓we_lst, ↓we_dct, ↓we_sub, ↓we_slc, ↓we_rev, ↓we_fld, ↓we_call, ↓wmk_n, ↓we_mk, ↓we_meth, ↓we_blt, ↓we_bm, ↓we_lc, ↓wes_nil, ↓wes_cons, ↓wes_star, ↓wts_nil, ↓wts_cons, ↓wo_none, ↓wo_some, ↓wi_e, ↓wi_r1, ↓wi_r2, ↓wi_enum, ↓wi_enumS, ↓wi_zip, ↓wnx_n, ↓wnx_r, ↓blq, ↓v_kindS, ↓wb_join, ↓wb_app, ↓wb_pop, ↓wb_ext, ↓wo_lift, ↓x_name, ↓x_lb, ↓x_aug, ↓x_isi, ↓v_isI, ↓v_isB, ↓v_isS, ↓v_isT, ↓v_lenT, ↓v_int, ↓v_max2, ↓v_all, ↓v_any, ↓v_tupL, ↓v_disp0, ↓wk_ok, ↓wo_s, ↓wp_s, ↓wi_i, ↓v_slot0, ↓v_slotS, ↓ss_0, ↓ss_S, ↓sr_n, ↓sr_c, ↓sw_n, ↓sw_c, ↓v_opI, ↓v_add, ↓v_sub, ↓v_tr, ↓v_trO, ↓wf_t, ↓wf_f, ↓v_ix0, ↓v_ix1, ↓v_ix2, ↓v_ix3, ↓v_ix4, ↓v_ix5, ↓v_src, ↓v_perm, ↓wn_0, ↓wn_S, ↓wn_a0, ↓wn_aS, ↓wn_an, ↓dr_n, ↓dr_c, ↓wr_n, ↓wr_c, c_eqI, c_neI, c_ltI, c_gtI, c_leI, c_geI, d_ltI, d_gtI, d_leI, d_geI, c_isN, c_isntN, kindS, items_tup, true_and, and_true, ln_0, ln_1, ln_2, ln_3, ln_4, ln_5, ln_6, ln_7, ln_8, ln_9, ln_10, ln_11, ln_12, ln_13, ln_14, ln_15, ln_16, ln_17, ln_18, ln_19, ln_20]
        refine wf_i (fun e => ?_) (fun e => ?_)
        · simp -dsimp -failIfUnchanged only [↓wsq_n, ↓wsq_r, ↓wfin_n, ↓wfin_r, ↓ws_nil, ↓ws_cons, ↓ws_expr, ↓ws_set, ↓ws_ret, ↓ws_iff, ↓ws_pass, ↓ws_fb, ↓ws_for, ↓ws_while, ↓ws_wc, ↓ws_wb, ↓wt_tup, ↓wt_nil, ↓wt_cons, ↓wt_sub, ↓wt_fld, ↓we_slot, ↓we_lit, ↓we_op, ↓we_cmp, ↓we_chain, ↓we_nt, ↓we_neg, ↓we_an, ↓we_orr, ↓we_ite, ↓we_tup, ↓we_lst, ↓we_dct, ↓we_sub, ↓we_slc, ↓we_rev, ↓we_fld, ↓we_call, ↓wmk_n, ↓we_mk, ↓we_meth, ↓we_blt, ↓we_bm, ↓we_lc, ↓wes_nil, ↓wes_cons, ↓wes_star, ↓wts_nil, ↓wts_cons, ↓wo_none, ↓wo_some, ↓wi_e, ↓wi_r1, ↓wi_r2, ↓wi_enum, ↓wi_enumS, ↓wi_zip, ↓wnx_n, ↓wnx_r, ↓blq, ↓v_kindS, ↓wb_join, ↓wb_app, ↓wb_pop, ↓wb_ext, ↓wo_lift, ↓x_name, ↓x_lb, ↓x_aug, ↓x_isi, ↓v_isI, ↓v_isB, ↓v_isS, ↓v_isT, ↓v_lenT, ↓v_int, ↓v_max2, ↓v_all, ↓v_any, ↓v_tupL, ↓v_disp0, ↓wk_ok, ↓wo_s, ↓wp_s, ↓wi_i, ↓v_slot0, ↓v_slotS, ↓ss_0, ↓ss_S, ↓sr_n, ↓sr_c, ↓sw_n, ↓sw_c, ↓v_opI, ↓v_add, ↓v_sub, ↓v_tr, ↓v_trO, ↓wf_t, ↓wf_f, ↓v_ix0, ↓v_ix1, ↓v_ix2, ↓v_ix3, ↓v_ix4, ↓v_ix5, ↓v_src, ↓v_perm, ↓wn_0, ↓wn_S, ↓wn_a0, ↓wn_aS, ↓wn_an, ↓dr_n, ↓dr_c, ↓wr_n, ↓wr_c, c_eqI, c_neI, c_ltI, c_gtI, c_leI, c_geI, d_ltI, d_gtI, d_leI, d_geI, c_isN, c_isntN, kindS, items_tup, true_and, and_true, ln_0, ln_1, ln_2, ln_3, ln_4, ln_5, ln_6, ln_7, ln_8, ln_9, ln_10, ln_11, ln_12, ln_13, ln_14, ln_15, ln_16, ln_17, ln_18, ln_19, ln_20, listR1 (n := nk) (by omega)]
          exact ⟨_, rfl, List.Sublist.refl _, d10.same same_new, s10'.new, a10.same same_new (by simp), same_new.get0 g10⟩
        · simp -dsimp -failIfUnchanged only [↓wsq_n, ↓wsq_r, ↓wfin_n, ↓wfin_r, ↓ws_nil, ↓ws_cons, ↓ws_expr, ↓ws_set, ↓ws_ret, ↓ws_iff, ↓ws_pass, ↓ws_fb, ↓ws_for, ↓ws_while, ↓ws_wc, ↓ws_wb, ↓wt_tup, ↓wt_nil, ↓wt_cons, ↓wt_sub, ↓wt_fld, ↓we_slot, ↓we_lit, ↓we_op, ↓we_cmp, ↓we_chain, ↓we_nt, ↓we_neg, ↓we_an, ↓we_orr, ↓we_ite, ↓we_tup, ↓we_lst, ↓we_dct, ↓we_sub, ↓we_slc, ↓we_rev, ↓we_fld, ↓we_call, ↓wmk_n, ↓we_mk, ↓we_meth, ↓we_blt, ↓we_bm, ↓we_lc, ↓wes_nil, ↓wes_cons, ↓wes_star, ↓wts_nil, ↓wts_cons, ↓wo_none, ↓wo_some, ↓wi_e, ↓wi_r1, ↓wi_r2, ↓wi_enum, ↓wi_enumS, ↓wi_zip, ↓wnx_n, ↓wnx_r, ↓blq, ↓v_kindS, ↓wb_join, ↓wb_app, ↓wb_pop, ↓wb_ext, ↓wo_lift, ↓x_name, ↓x_lb, ↓x_aug, ↓x_isi, ↓v_isI, ↓v_isB, ↓v_isS, ↓v_isT, ↓v_lenT, ↓v_int, ↓v_max2, ↓v_all, ↓v_any, ↓v_tupL, ↓v_disp0, ↓wk_ok, ↓wo_s, ↓wp_s, ↓wi_i, ↓v_slot0, ↓v_slotS, ↓ss_0, ↓ss_S, ↓sr_n, ↓sr_c, ↓sw_n, ↓sw_c, ↓v_opI, ↓v_add, ↓v_sub, ↓v_tr, ↓v_trO, ↓wf_t, ↓wf_f, ↓v_ix0, ↓v_ix1, ↓v_ix2, ↓v_ix3, ↓v_ix4, ↓v_ix5, ↓v_src, ↓v_perm, ↓wn_0, ↓wn_S, ↓wn_a0, ↓wn_aS, ↓wn_an, ↓dr_n, ↓dr_c, ↓wr_n, ↓wr_c, c_eqI, c_neI, c_ltI, c_gtI, c_leI, c_geI, d_ltI, d_gtI, d_leI, d_geI, c_isN, c_isntN, kindS, items_tup, true_and, and_true, ln_0, ln_1, ln_2, ln_3, ln_4, ln_5, ln_6, ln_7, ln_8, ln_9, ln_10, ln_11, ln_12, ln_13, ln_14, ln_15, ln_16, ln_17, ln_18, ln_19, ln_20]
          refine Lsome_ok (by omega) (by omega) d10 fun ys h11 hy d11 s11 => ?_
          exact ⟨_, rfl, hy, d11, s10'.trans s11, a10.same s11 hb, s11.get g10 n9⟩
      · rintro dd h10 ⟨sn, rfl, hsn, d10, s10, a10, g10⟩
        clear d9 s9 a9 g9
        simp -dsimp -failIfUnchanged only [↓wsq_n, ↓wsq_r, ↓wfin_n, ↓wfin_r, ↓ws_nil, ↓ws_cons, ↓ws_expr, ↓ws_set, ↓ws_ret, ↓ws_iff, ↓ws_pass, ↓ws_fb, ↓ws_for, ↓ws_while, ↓ws_wc, ↓ws_wb, ↓wt_tup, ↓wt_nil, ↓wt_cons, ↓wt_sub, ↓wt_fld, ↓we_slot, ↓we_lit, ↓we_op, ↓we_cmp, ↓we_chain, ↓we_nt, ↓we_neg, ↓we_an, ↓we_orr, ↓we_ite, ↓we_tup, ↓we_lst, ↓we_dct, ↓we_sub, ↓we_slc, ↓we_rev, ↓we_fld, ↓we_call, ↓wmk_n, ↓we_mk, ↓we_meth, ↓we_blt, ↓we_bm, ↓we_lc, ↓wes_nil, ↓wes_cons, ↓wes_star, ↓wts_nil, ↓wts_cons, ↓wo_none, ↓wo_some, ↓wi_e, ↓wi_r1, ↓wi_r2, ↓wi_enum, ↓wi_enumS, ↓wi_zip, ↓wnx_n, ↓wnx_r, ↓blq, ↓v_kindS, ↓wb_join, ↓wb_app, ↓wb_pop, ↓wb_ext, ↓wo_lift, ↓x_name, ↓x_lb, ↓x_aug, ↓x_isi, ↓v_isI, ↓v_isB, ↓v_isS, ↓v_isT, ↓v_lenT, ↓v_int, ↓v_max2, ↓v_all, ↓v_any, ↓v_tupL, ↓v_disp0, ↓wk_ok, ↓wo_s, ↓wp_s, ↓wi_i, ↓v_slot0, ↓v_slotS, ↓ss_0, ↓ss_S, ↓sr_n, ↓sr_c, ↓sw_n, ↓sw_c, ↓v_opI, ↓v_add, ↓v_sub, ↓v_tr, ↓v_trO, ↓wf_t, ↓wf_f, ↓v_ix0, ↓v_ix1, ↓v_ix2, ↓v_ix3, ↓v_ix4, ↓v_ix5, ↓v_src, ↓v_perm, ↓wn_0, ↓wn_S, ↓wn_a0, ↓wn_aS, ↓wn_an, ↓dr_n, ↓dr_c, ↓wr_n, ↓wr_c, c_eqI, c_neI, c_ltI, c_gtI, c_leI, c_geI, d_ltI, d_gtI, d_leI, d_geI, c_isN, c_isntN, kindS, items_tup, true_and, and_true, ln_0, ln_1, ln_2, ln_3, ln_4, ln_5, ln_6, ln_7, ln_8, ln_9, ln_10, ln_11, ln_12, ln_13, ln_14, ln_15, ln_16, ln_17, ln_18, ln_19, ln_20, w_steps a10.aw, src_lst (lst_get a10.as_)]
        have la : a.length + 1 ≤ n1 := by
          have : (a ++ x :: r).length = n1 := by rw [← ea, List.length_range]
          simp only [List.length_append, List.length_cons] at this
          omega
        refine w_pure encV st (fun m => if decide ((m.org : Int) = x1) then some (encV m) else none) (by simp only [maxLen]; omega) (fun h1 s1 => at_cell (by simp) (lst_get (s1.get0 a10.as_))) ?_ ?_
        · intro m h1 Q1 hm s1 q1
          simp -dsimp -failIfUnchanged only [↓wsq_n, ↓wsq_r, ↓wfin_n, ↓wfin_r, ↓ws_nil, ↓ws_cons, ↓ws_expr, ↓ws_set, ↓ws_ret, ↓ws_iff, ↓ws_pass, ↓ws_fb, ↓ws_for, ↓ws_while, ↓ws_wc, ↓ws_wb, ↓wt_tup, ↓wt_nil, ↓wt_cons, ↓wt_sub, ↓wt_fld, ↓we_slot, ↓we_lit, ↓we_op, ↓we_cmp, ↓we_chain, ↓we_nt, ↓we_neg, ↓we_an, ↓we_orr, ↓we_ite, ↓we_tup, ↓we_lst, ↓we_dct, ↓we_sub, ↓we_slc, ↓we_rev, ↓we_fld, ↓we_call, ↓wmk_n, ↓we_mk, ↓we_meth, ↓we_blt, ↓we_bm, ↓we_lc, ↓wes_nil, ↓wes_cons, ↓wes_star, ↓wts_nil, ↓wts_cons, ↓wo_none, ↓wo_some, ↓wi_e, ↓wi_r1, ↓wi_r2, ↓wi_enum, ↓wi_enumS, ↓wi_zip, ↓wnx_n, ↓wnx_r, ↓blq, ↓v_kindS, ↓wb_join, ↓wb_app, ↓wb_pop, ↓wb_ext, ↓wo_lift, ↓x_name, ↓x_lb, ↓x_aug, ↓x_isi, ↓v_isI, ↓v_isB, ↓v_isS, ↓v_isT, ↓v_lenT, ↓v_int, ↓v_max2, ↓v_all, ↓v_any, ↓v_tupL, ↓v_disp0, ↓wk_ok, ↓wo_s, ↓wp_s, ↓wi_i, ↓v_slot0, ↓v_slotS, ↓ss_0, ↓ss_S, ↓sr_n, ↓sr_c, ↓sw_n, ↓sw_c, ↓v_opI, ↓v_add, ↓v_sub, ↓v_tr, ↓v_trO, ↓wf_t, ↓wf_f, ↓v_ix0, ↓v_ix1, ↓v_ix2, ↓v_ix3, ↓v_ix4, ↓v_ix5, ↓v_src, ↓v_perm, ↓wn_0, ↓wn_S, ↓wn_a0, ↓wn_aS, ↓wn_an, ↓dr_n, ↓dr_c, ↓wr_n, ↓wr_c, c_eqI, c_neI, c_ltI, c_gtI, c_leI, c_geI, d_ltI, d_gtI, d_leI, d_geI, c_isN, c_isntN, kindS, items_tup, true_and, and_true, ln_0, ln_1, ln_2, ln_3, ln_4, ln_5, ln_6, ln_7, ln_8, ln_9, ln_10, ln_11, ln_12, ln_13, ln_14, ln_15, ln_16, ln_17, ln_18, ln_19, ln_20, encV]
          refine wf_i (fun e => ?_) (fun e => ?_)
          · simp -dsimp -failIfUnchanged only [↓wsq_n, ↓wsq_r, ↓wfin_n, ↓wfin_r, ↓ws_nil, ↓ws_cons, ↓ws_expr, ↓ws_set, ↓ws_ret, ↓ws_iff, ↓ws_pass, ↓ws_fb, ↓ws_for, ↓ws_while, ↓ws_wc, ↓ws_wb, ↓wt_tup, ↓wt_nil, ↓wt_cons, ↓wt_sub, ↓wt_fld, ↓we_slot, ↓we_lit, ↓we_op, ↓we_cmp, ↓we_chain, ↓we_nt, ↓we_neg, ↓we_an, ↓we_orr, ↓we_ite, ↓we_tup, ↓we_lst, ↓we_dct, ↓we_sub, ↓we_slc, ↓we_rev, ↓we_fld, ↓we_call, ↓wmk_n, ↓we_mk, ↓we_meth, ↓we_blt, ↓we_bm, ↓we_lc, ↓wes_nil, ↓wes_cons, ↓wes_star, ↓wts_nil, ↓wts_cons, ↓wo_none, ↓wo_some, ↓wi_e, ↓wi_r1, ↓wi_r2, ↓wi_enum, ↓wi_enumS, ↓wi_zip, ↓wnx_n, ↓wnx_r, ↓blq, ↓v_kindS, ↓wb_join, ↓wb_app, ↓wb_pop, ↓wb_ext, ↓wo_lift, ↓x_name, ↓x_lb, ↓x_aug, ↓x_isi, ↓v_isI, ↓v_isB, ↓v_isS, ↓v_isT, ↓v_lenT, ↓v_int, ↓v_max2, ↓v_all, ↓v_any, ↓v_tupL, ↓v_disp0, ↓wk_ok, ↓wo_s, ↓wp_s, ↓wi_i, ↓v_slot0, ↓v_slotS, ↓ss_0, ↓ss_S, ↓sr_n, ↓sr_c, ↓sw_n, ↓sw_c, ↓v_opI, ↓v_add, ↓v_sub, ↓v_tr, ↓v_trO, ↓wf_t, ↓wf_f, ↓v_ix0, ↓v_ix1, ↓v_ix2, ↓v_ix3, ↓v_ix4, ↓v_ix5, ↓v_src, ↓v_perm, ↓wn_0, ↓wn_S, ↓wn_a0, ↓wn_aS, ↓wn_an, ↓dr_n, ↓dr_c, ↓wr_n, ↓wr_c, c_eqI, c_neI, c_ltI, c_gtI, c_leI, c_geI, d_ltI, d_gtI, d_leI, d_geI, c_isN, c_isntN, kindS, items_tup, true_and, and_true, ln_0, ln_1, ln_2, ln_3, ln_4, ln_5, ln_6, ln_7, ln_8, ln_9, ln_10, ln_11, ln_12, ln_13, ln_14, ln_15, ln_16, ln_17, ln_18, ln_19, ln_20]
            rw [if_pos e] at q1
            exact q1 _ Same.refl
          · simp -dsimp -failIfUnchanged only [↓wsq_n, ↓wsq_r, ↓wfin_n, ↓wfin_r, ↓ws_nil, ↓ws_cons, ↓ws_expr, ↓ws_set, ↓ws_ret, ↓ws_iff, ↓ws_pass, ↓ws_fb, ↓ws_for, ↓ws_while, ↓ws_wc, ↓ws_wb, ↓wt_tup, ↓wt_nil, ↓wt_cons, ↓wt_sub, ↓wt_fld, ↓we_slot, ↓we_lit, ↓we_op, ↓we_cmp, ↓we_chain, ↓we_nt, ↓we_neg, ↓we_an, ↓we_orr, ↓we_ite, ↓we_tup, ↓we_lst, ↓we_dct, ↓we_sub, ↓we_slc, ↓we_rev, ↓we_fld, ↓we_call, ↓wmk_n, ↓we_mk, ↓we_meth, ↓we_blt, ↓we_bm, ↓we_lc, ↓wes_nil, ↓wes_cons, ↓wes_star, ↓wts_nil, ↓wts_cons, ↓wo_none, ↓wo_some, ↓wi_e, ↓wi_r1, ↓wi_r2, ↓wi_enum, ↓wi_enumS, ↓wi_zip, ↓wnx_n, ↓wnx_r, ↓blq, ↓v_kindS, ↓wb_join, ↓wb_app, ↓wb_pop, ↓wb_ext, ↓wo_lift, ↓x_name, ↓x_lb, ↓x_aug, ↓x_isi, ↓v_isI, ↓v_isB, ↓v_isS, ↓v_isT, ↓v_lenT, ↓v_int, ↓v_max2, ↓v_all, ↓v_any, ↓v_tupL, ↓v_disp0, ↓wk_ok, ↓wo_s, ↓wp_s, ↓wi_i, ↓v_slot0, ↓v_slotS, ↓ss_0, ↓ss_S, ↓sr_n, ↓sr_c, ↓sw_n, ↓sw_c, ↓v_opI, ↓v_add, ↓v_sub, ↓v_tr, ↓v_trO, ↓wf_t, ↓wf_f, ↓v_ix0, ↓v_ix1, ↓v_ix2, ↓v_ix3, ↓v_ix4, ↓v_ix5, ↓v_src, ↓v_perm, ↓wn_0, ↓wn_S, ↓wn_a0, ↓wn_aS, ↓wn_an, ↓dr_n, ↓dr_c, ↓wr_n, ↓wr_c, c_eqI, c_neI, c_ltI, c_gtI, c_leI, c_geI, d_ltI, d_gtI, d_leI, d_geI, c_isN, c_isntN, kindS, items_tup, true_and, and_true, ln_0, ln_1, ln_2, ln_3, ln_4, ln_5, ln_6, ln_7, ln_8, ln_9, ln_10, ln_11, ln_12, ln_13, ln_14, ln_15, ln_16, ln_17, ln_18, ln_19, ln_20]
            rw [if_neg (by rw [e]; simp)] at q1
            exact q1 _ Same.refl
        · intro h11 s11
          rw [filterMap_if]
          simp -dsimp -failIfUnchanged only [↓wsq_n, ↓wsq_r, ↓wfin_n, ↓wfin_r, ↓ws_nil, ↓ws_cons, ↓ws_expr, ↓ws_set, ↓ws_ret, ↓ws_iff, ↓ws_pass, ↓ws_fb, ↓ws_for, ↓ws_while, ↓ws_wc, ↓ws_wb, ↓wt_tup, ↓wt_nil, ↓wt_cons, ↓wt_sub, ↓wt_fld, ↓we_slot, ↓we_lit, ↓we_op, ↓we_cmp, ↓we_chain, ↓we_nt, ↓we_neg, ↓we_an, ↓we_orr, ↓we_ite, ↓we_tup, ↓we_lst, ↓we_dct, ↓we_sub, ↓we_slc, ↓we_rev, ↓we_fld, ↓we_call, ↓wmk_n, ↓we_mk, ↓we_meth, ↓we_blt, ↓we_bm, ↓we_lc, ↓wes_nil, ↓wes_cons, ↓wes_star, ↓wts_nil, ↓wts_cons, ↓wo_none, ↓wo_some, ↓wi_e, ↓wi_r1, ↓wi_r2, ↓wi_enum, ↓wi_enumS, ↓wi_zip, ↓wnx_n, ↓wnx_r, ↓blq, ↓v_kindS, ↓wb_join, ↓wb_app, ↓wb_pop, ↓wb_ext, ↓wo_lift, ↓x_name, ↓x_lb, ↓x_aug, ↓x_isi, ↓v_isI, ↓v_isB, ↓v_isS, ↓v_isT, ↓v_lenT, ↓v_int, ↓v_max2, ↓v_all, ↓v_any, ↓v_tupL, ↓v_disp0, ↓wk_ok, ↓wo_s, ↓wp_s, ↓wi_i, ↓v_slot0, ↓v_slotS, ↓ss_0, ↓ss_S, ↓sr_n, ↓sr_c, ↓sw_n, ↓sw_c, ↓v_opI, ↓v_add, ↓v_sub, ↓v_tr, ↓v_trO, ↓wf_t, ↓wf_f, ↓v_ix0, ↓v_ix1, ↓v_ix2, ↓v_ix3, ↓v_ix4, ↓v_ix5, ↓v_src, ↓v_perm, ↓wn_0, ↓wn_S, ↓wn_a0, ↓wn_aS, ↓wn_an, ↓dr_n, ↓dr_c, ↓wr_n, ↓wr_c, c_eqI, c_neI, c_ltI, c_gtI, c_leI, c_geI, d_ltI, d_gtI, d_leI, d_geI, c_isN, c_isntN, kindS, items_tup, true_and, and_true, ln_0, ln_1, ln_2, ln_3, ln_4, ln_5, ln_6, ln_7, ln_8, ln_9, ln_10, ln_11, ln_12, ln_13, ln_14, ln_15, ln_16, ln_17, ln_18, ln_19, ln_20, len_new, List.length_map]
          have d12 := (d10.same s11).same (same_new (c := .lst ((st.filter fun m => decide ((m.org : Int) = x1)).map encV)))
          have s12 := (s10.trans s11.wide).new (c := .lst ((st.filter fun m => decide ((m.org : Int) = x1)).map encV))
          have a12 := (a10.same s11 (by simp)).same (same_new (c := .lst ((st.filter fun m => decide ((m.org : Int) = x1)).map encV))) (by simp)
          have g12 := (s11.trans (same_new (c := .lst ((st.filter fun m => decide ((m.org : Int) = x1)).map encV)))).get0 g10
          generalize h11 ++ [C.lst ((st.filter fun m => decide ((m.org : Int) = x1)).map encV)] = h12 at d12 s12 a12 g12 ⊢
          clear s11 d10 s10 a10 g10
          have efl : (st.filter fun m => decide ((m.org : Int) = x1)) = st.filter fun m => decide (m.org = x1) := by
            congr 1; funext m; rw [Bool.eq_iff_iff]; simp only [decide_eq_true_eq]; omega
          rw [efl]
          refine wf_i (fun e => ?_) (fun e => ?_)
          · have t0 : subD h12 (.ref lk9) (.int 0) = some (.tup (lo1.map natD)) := (sub_lst (k := 0) (lst_get g12)).trans rfl
            have t1 : subD h12 (.ref lk9) (.int 1) = some (.tup (lo2.map natD)) := (sub_lst (k := 1) (lst_get g12)).trans rfl
            have psh := push_lst (v := encV ⟨x1, y1, sg, sn, lo1, lo2⟩) a12.as_ (by simp only [List.length_map, maxLen]; omega)
            simp only [encV] at psh
            simp -dsimp -failIfUnchanged only [↓wsq_n, ↓wsq_r, ↓wfin_n, ↓wfin_r, ↓ws_nil, ↓ws_cons, ↓ws_expr, ↓ws_set, ↓ws_ret, ↓ws_iff, ↓ws_pass, ↓ws_fb, ↓ws_for, ↓ws_while, ↓ws_wc, ↓ws_wb, ↓wt_tup, ↓wt_nil, ↓wt_cons, ↓wt_sub, ↓wt_fld, ↓we_slot, ↓we_lit, ↓we_op, ↓we_cmp, ↓we_chain, ↓we_nt, ↓we_neg, ↓we_an, ↓we_orr, ↓we_ite, ↓we_tup, ↓we_lst, ↓we_dct, ↓we_sub, ↓we_slc, ↓we_rev, ↓we_fld, ↓we_call, ↓wmk_n, ↓we_mk, ↓we_meth, ↓we_blt, ↓we_bm, ↓we_lc, ↓wes_nil, ↓wes_cons, ↓wes_star, ↓wts_nil, ↓wts_cons, ↓wo_none, ↓wo_some, ↓wi_e, ↓wi_r1, ↓wi_r2, ↓wi_enum, ↓wi_enumS, ↓wi_zip, ↓wnx_n, ↓wnx_r, ↓blq, ↓v_kindS, ↓wb_join, ↓wb_app, ↓wb_pop, ↓wb_ext, ↓wo_lift, ↓x_name, ↓x_lb, ↓x_aug, ↓x_isi, ↓v_isI, ↓v_isB, ↓v_isS, ↓v_isT, ↓v_lenT, ↓v_int, ↓v_max2, ↓v_all, ↓v_any, ↓v_tupL, ↓v_disp0, ↓wk_ok, ↓wo_s, ↓wp_s, ↓wi_i, ↓v_slot0, ↓v_slotS, ↓ss_0, ↓ss_S, ↓sr_n, ↓sr_c, ↓sw_n, ↓sw_c, ↓v_opI, ↓v_add, ↓v_sub, ↓v_tr, ↓v_trO, ↓wf_t, ↓wf_f, ↓v_ix0, ↓v_ix1, ↓v_ix2, ↓v_ix3, ↓v_ix4, ↓v_ix5, ↓v_src, ↓v_perm, ↓wn_0, ↓wn_S, ↓wn_a0, ↓wn_aS, ↓wn_an, ↓dr_n, ↓dr_c, ↓wr_n, ↓wr_c, c_eqI, c_neI, c_ltI, c_gtI, c_leI, c_geI, d_ltI, d_gtI, d_leI, d_geI, c_isN, c_isntN, kindS, items_tup, true_and, and_true, ln_0, ln_1, ln_2, ln_3, ln_4, ln_5, ln_6, ln_7, ln_8, ln_9, ln_10, ln_11, ln_12, ln_13, ln_14, ln_15, ln_16, ln_17, ln_18, ln_19, ln_20, w_steps a12.aw, kind_lst a12.as_, t0, t1, psh, nm_n]
            have aw13 := a12.setS (st ++ [⟨x1, y1, sg, sn, lo1, lo2⟩])
            simp only [List.map_append, List.map_cons, List.map_nil, encV] at aw13
            have bs := a12.bs
            refine ⟨_, _, _, _, _, _, _, _, _, _, _, _, st ++ [⟨x1, y1, sg, sn, lo1, lo2⟩], rfl, d12.set (by omega) (by omega), s12.set (.inr bs), aw13, by simp; omega, ?_, ?_⟩
            · intro m hm
              rcases List.mem_append.mp hm with hm | hm
              · exact okv m hm
              · rw [List.mem_singleton.mp hm]
                have : sp.getD x1 0 = sp[x1] := by simp [List.getD, List.getElem?_eq_getElem hx1]
                exact ⟨hx1, by simp only; omega, subs, hsn, by rw [this]; exact hy lo1 (by simp), by rw [this]; exact hy lo2 (by simp)⟩
            · intro z
              rw [List.filter_append, List.length_append]
              have := l4 z
              by_cases ez : x1 = z
              · subst ez
                have e' := of_decide_eq_true e
                simp at e' ⊢
                omega
              · simp [ez]; exact this
          · simp -dsimp -failIfUnchanged only [↓wsq_n, ↓wsq_r, ↓wfin_n, ↓wfin_r, ↓ws_nil, ↓ws_cons, ↓ws_expr, ↓ws_set, ↓ws_ret, ↓ws_iff, ↓ws_pass, ↓ws_fb, ↓ws_for, ↓ws_while, ↓ws_wc, ↓ws_wb, ↓wt_tup, ↓wt_nil, ↓wt_cons, ↓wt_sub, ↓wt_fld, ↓we_slot, ↓we_lit, ↓we_op, ↓we_cmp, ↓we_chain, ↓we_nt, ↓we_neg, ↓we_an, ↓we_orr, ↓we_ite, ↓we_tup, ↓we_lst, ↓we_dct, ↓we_sub, ↓we_slc, ↓we_rev, ↓we_fld, ↓we_call, ↓wmk_n, ↓we_mk, ↓we_meth, ↓we_blt, ↓we_bm, ↓we_lc, ↓wes_nil, ↓wes_cons, ↓wes_star, ↓wts_nil, ↓wts_cons, ↓wo_none, ↓wo_some, ↓wi_e, ↓wi_r1, ↓wi_r2, ↓wi_enum, ↓wi_enumS, ↓wi_zip, ↓wnx_n, ↓wnx_r, ↓blq, ↓v_kindS, ↓wb_join, ↓wb_app, ↓wb_pop, ↓wb_ext, ↓wo_lift, ↓x_name, ↓x_lb, ↓x_aug, ↓x_isi, ↓v_isI, ↓v_isB, ↓v_isS, ↓v_isT, ↓v_lenT, ↓v_int, ↓v_max2, ↓v_all, ↓v_any, ↓v_tupL, ↓v_disp0, ↓wk_ok, ↓wo_s, ↓wp_s, ↓wi_i, ↓v_slot0, ↓v_slotS, ↓ss_0, ↓ss_S, ↓sr_n, ↓sr_c, ↓sw_n, ↓sw_c, ↓v_opI, ↓v_add, ↓v_sub, ↓v_tr, ↓v_trO, ↓wf_t, ↓wf_f, ↓v_ix0, ↓v_ix1, ↓v_ix2, ↓v_ix3, ↓v_ix4, ↓v_ix5, ↓v_src, ↓v_perm, ↓wn_0, ↓wn_S, ↓wn_a0, ↓wn_aS, ↓wn_an, ↓dr_n, ↓dr_c, ↓wr_n, ↓wr_c, c_eqI, c_neI, c_ltI, c_gtI, c_leI, c_geI, d_ltI, d_gtI, d_leI, d_geI, c_isN, c_isntN, kindS, items_tup, true_and, and_true, ln_0, ln_1, ln_2, ln_3, ln_4, ln_5, ln_6, ln_7, ln_8, ln_9, ln_10, ln_11, ln_12, ln_13, ln_14, ln_15, ln_16, ln_17, ln_18, ln_19, ln_20, nm_n]
            exact ⟨_, _, _, _, _, _, _, _, _, _, _, _, st, rfl, d12, s12, a12, by simp; omega, okv, l4⟩
  rintro σ h6 ⟨t5, t7, t8, t9, t10, t11, t12, t13, t14, t15, t16, t17, st, rfl, d6, s6, a6, lst, okv, l4⟩
  simp only [List.length_range] at lst
  clear aW d5 s5
  simp -dsimp -failIfUnchanged only [↓wsq_n, ↓wsq_r, ↓wfin_n, ↓wfin_r, ↓ws_nil, ↓ws_cons, ↓ws_expr, ↓ws_set, ↓ws_ret, ↓ws_iff, ↓ws_pass, ↓ws_fb, ↓ws_for, ↓ws_while, ↓ws_wc, ↓ws_wb, ↓wt_tup, ↓wt_nil, ↓wt_cons, ↓wt_sub, ↓wt_fld, ↓we_slot, ↓we_lit, ↓we_op, ↓we_cmp, ↓we_chain, ↓we_nt, ↓we_neg, ↓we_an, ↓we_orr, ↓we_ite, ↓we_tup, ↓we_lst, ↓we_dct, ↓we_sub, ↓we_slc, ↓we_rev, ↓we_fld, ↓we_call, ↓wmk_n, ↓we_mk, ↓we_meth, ↓we_blt, ↓we_bm, ↓we_lc, ↓wes_nil, ↓wes_cons, ↓wes_star, ↓wts_nil, ↓wts_cons, ↓wo_none, ↓wo_some, ↓wi_e, ↓wi_r1, ↓wi_r2, ↓wi_enum, ↓wi_enumS, ↓wi_zip, ↓wnx_n, ↓wnx_r, ↓blq, ↓v_kindS, ↓wb_join, ↓wb_app, ↓wb_pop, ↓wb_ext, ↓wo_lift, ↓x_name, ↓x_lb, ↓x_aug, ↓x_isi, ↓v_isI, ↓v_isB, ↓v_isS, ↓v_isT, ↓v_lenT, ↓v_int, ↓v_max2, ↓v_all, ↓v_any, ↓v_tupL, ↓v_disp0, ↓wk_ok, ↓wo_s, ↓wp_s, ↓wi_i, ↓v_slot0, ↓v_slotS, ↓ss_0, ↓ss_S, ↓sr_n, ↓sr_c, ↓sw_n, ↓sw_c, ↓v_opI, ↓v_add, ↓v_sub, ↓v_tr, ↓v_trO, ↓wf_t, ↓wf_f, ↓v_ix0, ↓v_ix1, ↓v_ix2, ↓v_ix3, ↓v_ix4, ↓v_ix5, ↓v_src, ↓v_perm, ↓wn_0, ↓wn_S, ↓wn_a0, ↓wn_aS, ↓wn_an, ↓dr_n, ↓dr_c, ↓wr_n, ↓wr_c, c_eqI, c_neI, c_ltI, c_gtI, c_leI, c_geI, d_ltI, d_gtI, d_leI, d_geI, c_isN, c_isntN, kindS, items_tup, true_and, and_true, ln_0, ln_1, ln_2, ln_3, ln_4, ln_5, ln_6, ln_7, ln_8, ln_9, ln_10, ln_11, ln_12, ln_13, ln_14, ln_15, ln_16, ln_17, ln_18, ln_19, ln_20]
  refine ⟨by simp [okRange]; omega, ?_⟩
  refine w_for natD (List.range nk) (fun a r σ h' => ∃ t5 t17 ki, σ = [some (.ref i), some (.int top), some (.int wd), some (.int nk), some (.tup (sp.map .int)), t5, some (.ref w), t7, t8, t9, t10, t11, t12, t13, t14, t15, t16, t17] ∧ Deck h' i j ∧ Same h h' [i, j] ∧ AtW h' w h.length ⟨sp, st, be, ki, []⟩ ls lk ll ∧ ki.length = a.length ∧ (∀ m ∈ ki, OkM nk m)) (fun a r σ h1 e z => at_range) ?_ ?_ ⟨_, _, [], rfl, d6, s6, a6, rfl, by simp⟩
  · rintro a x r σ h1 ea ⟨u5, u17, ki, rfl, d1, s1, a1, lki, oki⟩
    simp -dsimp -failIfUnchanged only [↓wsq_n, ↓wsq_r, ↓wfin_n, ↓wfin_r, ↓ws_nil, ↓ws_cons, ↓ws_expr, ↓ws_set, ↓ws_ret, ↓ws_iff, ↓ws_pass, ↓ws_fb, ↓ws_for, ↓ws_while, ↓ws_wc, ↓ws_wb, ↓wt_tup, ↓wt_nil, ↓wt_cons, ↓wt_sub, ↓wt_fld, ↓we_slot, ↓we_lit, ↓we_op, ↓we_cmp, ↓we_chain, ↓we_nt, ↓we_neg, ↓we_an, ↓we_orr, ↓we_ite, ↓we_tup, ↓we_lst, ↓we_dct, ↓we_sub, ↓we_slc, ↓we_rev, ↓we_fld, ↓we_call, ↓wmk_n, ↓we_mk, ↓we_meth, ↓we_blt, ↓we_bm, ↓we_lc, ↓wes_nil, ↓wes_cons, ↓wes_star, ↓wts_nil, ↓wts_cons, ↓wo_none, ↓wo_some, ↓wi_e, ↓wi_r1, ↓wi_r2, ↓wi_enum, ↓wi_enumS, ↓wi_zip, ↓wnx_n, ↓wnx_r, ↓blq, ↓v_kindS, ↓wb_join, ↓wb_app, ↓wb_pop, ↓wb_ext, ↓wo_lift, ↓x_name, ↓x_lb, ↓x_aug, ↓x_isi, ↓v_isI, ↓v_isB, ↓v_isS, ↓v_isT, ↓v_lenT, ↓v_int, ↓v_max2, ↓v_all, ↓v_any, ↓v_tupL, ↓v_disp0, ↓wk_ok, ↓wo_s, ↓wp_s, ↓wi_i, ↓v_slot0, ↓v_slotS, ↓ss_0, ↓ss_S, ↓sr_n, ↓sr_c, ↓sw_n, ↓sw_c, ↓v_opI, ↓v_add, ↓v_sub, ↓v_tr, ↓v_trO, ↓wf_t, ↓wf_f, ↓v_ix0, ↓v_ix1, ↓v_ix2, ↓v_ix3, ↓v_ix4, ↓v_ix5, ↓v_src, ↓v_perm, ↓wn_0, ↓wn_S, ↓wn_a0, ↓wn_aS, ↓wn_an, ↓dr_n, ↓dr_c, ↓wr_n, ↓wr_c, c_eqI, c_neI, c_ltI, c_gtI, c_leI, c_geI, d_ltI, d_gtI, d_leI, d_geI, c_isN, c_isntN, kindS, items_tup, true_and, and_true, ln_0, ln_1, ln_2, ln_3, ln_4, ln_5, ln_6, ln_7, ln_8, ln_9, ln_10, ln_11, ln_12, ln_13, ln_14, ln_15, ln_16, ln_17, ln_18, ln_19, ln_20]
    refine Lpick_ok lst_new (by simp) (by simp) (d1.same same_new) (by have := s1.1; omega) (by have := s1.1; omega) fun p h2 hp d2 s2 => ?_
    have : ∃ y : Nat, p = .int y ∧ y ≤ 3 := by
      simp only [List.mem_cons, List.not_mem_nil, or_false] at hp
      rcases hp with rfl | rfl | rfl | rfl | rfl
      · exact ⟨0, rfl, by omega⟩
      · exact ⟨0, rfl, by omega⟩
      · exact ⟨1, rfl, by omega⟩
      · exact ⟨2, rfl, by omega⟩
      · exact ⟨3, rfl, by omega⟩
    obtain ⟨wt, rfl, lwt⟩ := this
    have a2 := (a1.same same_new (by simp)).same s2 hb
    have s02 := (s1.new (c := .lst [.int 0, .int 0, .int 1, .int 2, .int 3])).trans s2
    simp -dsimp -failIfUnchanged only [↓wsq_n, ↓wsq_r, ↓wfin_n, ↓wfin_r, ↓ws_nil, ↓ws_cons, ↓ws_expr, ↓ws_set, ↓ws_ret, ↓ws_iff, ↓ws_pass, ↓ws_fb, ↓ws_for, ↓ws_while, ↓ws_wc, ↓ws_wb, ↓wt_tup, ↓wt_nil, ↓wt_cons, ↓wt_sub, ↓wt_fld, ↓we_slot, ↓we_lit, ↓we_op, ↓we_cmp, ↓we_chain, ↓we_nt, ↓we_neg, ↓we_an, ↓we_orr, ↓we_ite, ↓we_tup, ↓we_lst, ↓we_dct, ↓we_sub, ↓we_slc, ↓we_rev, ↓we_fld, ↓we_call, ↓wmk_n, ↓we_mk, ↓we_meth, ↓we_blt, ↓we_bm, ↓we_lc, ↓wes_nil, ↓wes_cons, ↓wes_star, ↓wts_nil, ↓wts_cons, ↓wo_none, ↓wo_some, ↓wi_e, ↓wi_r1, ↓wi_r2, ↓wi_enum, ↓wi_enumS, ↓wi_zip, ↓wnx_n, ↓wnx_r, ↓blq, ↓v_kindS, ↓wb_join, ↓wb_app, ↓wb_pop, ↓wb_ext, ↓wo_lift, ↓x_name, ↓x_lb, ↓x_aug, ↓x_isi, ↓v_isI, ↓v_isB, ↓v_isS, ↓v_isT, ↓v_lenT, ↓v_int, ↓v_max2, ↓v_all, ↓v_any, ↓v_tupL, ↓v_disp0, ↓wk_ok, ↓wo_s, ↓wp_s, ↓wi_i, ↓v_slot0, ↓v_slotS, ↓ss_0, ↓ss_S, ↓sr_n, ↓sr_c, ↓sw_n, ↓sw_c, ↓v_opI, ↓v_add, ↓v_sub, ↓v_tr, ↓v_trO, ↓wf_t, ↓wf_f, ↓v_ix0, ↓v_ix1, ↓v_ix2, ↓v_ix3, ↓v_ix4, ↓v_ix5, ↓v_src, ↓v_perm, ↓wn_0, ↓wn_S, ↓wn_a0, ↓wn_aS, ↓wn_an, ↓dr_n, ↓dr_c, ↓wr_n, ↓wr_c, c_eqI, c_neI, c_ltI, c_gtI, c_leI, c_geI, d_ltI, d_gtI, d_leI, d_geI, c_isN, c_isntN, kindS, items_tup, true_and, and_true, ln_0, ln_1, ln_2, ln_3, ln_4, ln_5, ln_6, ln_7, ln_8, ln_9, ln_10, ln_11, ln_12, ln_13, ln_14, ln_15, ln_16, ln_17, ln_18, ln_19, ln_20, w_kinds a2.aw, kind_lst a2.ak]
    refine Ldraw_ok (by omega) d2 fun n3 h3 l3 d3 s3 => ?_
    simp -dsimp -failIfUnchanged only [↓wsq_n, ↓wsq_r, ↓wfin_n, ↓wfin_r, ↓ws_nil, ↓ws_cons, ↓ws_expr, ↓ws_set, ↓ws_ret, ↓ws_iff, ↓ws_pass, ↓ws_fb, ↓ws_for, ↓ws_while, ↓ws_wc, ↓ws_wb, ↓wt_tup, ↓wt_nil, ↓wt_cons, ↓wt_sub, ↓wt_fld, ↓we_slot, ↓we_lit, ↓we_op, ↓we_cmp, ↓we_chain, ↓we_nt, ↓we_neg, ↓we_an, ↓we_orr, ↓we_ite, ↓we_tup, ↓we_lst, ↓we_dct, ↓we_sub, ↓we_slc, ↓we_rev, ↓we_fld, ↓we_call, ↓wmk_n, ↓we_mk, ↓we_meth, ↓we_blt, ↓we_bm, ↓we_lc, ↓wes_nil, ↓wes_cons, ↓wes_star, ↓wts_nil, ↓wts_cons, ↓wo_none, ↓wo_some, ↓wi_e, ↓wi_r1, ↓wi_r2, ↓wi_enum, ↓wi_enumS, ↓wi_zip, ↓wnx_n, ↓wnx_r, ↓blq, ↓v_kindS, ↓wb_join, ↓wb_app, ↓wb_pop, ↓wb_ext, ↓wo_lift, ↓x_name, ↓x_lb, ↓x_aug, ↓x_isi, ↓v_isI, ↓v_isB, ↓v_isS, ↓v_isT, ↓v_lenT, ↓v_int, ↓v_max2, ↓v_all, ↓v_any, ↓v_tupL, ↓v_disp0, ↓wk_ok, ↓wo_s, ↓wp_s, ↓wi_i, ↓v_slot0, ↓v_slotS, ↓ss_0, ↓ss_S, ↓sr_n, ↓sr_c, ↓sw_n, ↓sw_c, ↓v_opI, ↓v_add, ↓v_sub, ↓v_tr, ↓v_trO, ↓wf_t, ↓wf_f, ↓v_ix0, ↓v_ix1, ↓v_ix2, ↓v_ix3, ↓v_ix4, ↓v_ix5, ↓v_src, ↓v_perm, ↓wn_0, ↓wn_S, ↓wn_a0, ↓wn_aS, ↓wn_an, ↓dr_n, ↓dr_c, ↓wr_n, ↓wr_c, c_eqI, c_neI, c_ltI, c_gtI, c_leI, c_geI, d_ltI, d_gtI, d_leI, d_geI, c_isN, c_isntN, kindS, items_tup, true_and, and_true, ln_0, ln_1, ln_2, ln_3, ln_4, ln_5, ln_6, ln_7, ln_8, ln_9, ln_10, ln_11, ln_12, ln_13, ln_14, ln_15, ln_16, ln_17, ln_18, ln_19, ln_20]
    refine Ldraw_ok (by omega) d3 fun n4 h4 l4' d4 s4 => ?_
    simp -dsimp -failIfUnchanged only [↓wsq_n, ↓wsq_r, ↓wfin_n, ↓wfin_r, ↓ws_nil, ↓ws_cons, ↓ws_expr, ↓ws_set, ↓ws_ret, ↓ws_iff, ↓ws_pass, ↓ws_fb, ↓ws_for, ↓ws_while, ↓ws_wc, ↓ws_wb, ↓wt_tup, ↓wt_nil, ↓wt_cons, ↓wt_sub, ↓wt_fld, ↓we_slot, ↓we_lit, ↓we_op, ↓we_cmp, ↓we_chain, ↓we_nt, ↓we_neg, ↓we_an, ↓we_orr, ↓we_ite, ↓we_tup, ↓we_lst, ↓we_dct, ↓we_sub, ↓we_slc, ↓we_rev, ↓we_fld, ↓we_call, ↓wmk_n, ↓we_mk, ↓we_meth, ↓we_blt, ↓we_bm, ↓we_lc, ↓wes_nil, ↓wes_cons, ↓wes_star, ↓wts_nil, ↓wts_cons, ↓wo_none, ↓wo_some, ↓wi_e, ↓wi_r1, ↓wi_r2, ↓wi_enum, ↓wi_enumS, ↓wi_zip, ↓wnx_n, ↓wnx_r, ↓blq, ↓v_kindS, ↓wb_join, ↓wb_app, ↓wb_pop, ↓wb_ext, ↓wo_lift, ↓x_name, ↓x_lb, ↓x_aug, ↓x_isi, ↓v_isI, ↓v_isB, ↓v_isS, ↓v_isT, ↓v_lenT, ↓v_int, ↓v_max2, ↓v_all, ↓v_any, ↓v_tupL, ↓v_disp0, ↓wk_ok, ↓wo_s, ↓wp_s, ↓wi_i, ↓v_slot0, ↓v_slotS, ↓ss_0, ↓ss_S, ↓sr_n, ↓sr_c, ↓sw_n, ↓sw_c, ↓v_opI, ↓v_add, ↓v_sub, ↓v_tr, ↓v_trO, ↓wf_t, ↓wf_f, ↓v_ix0, ↓v_ix1, ↓v_ix2, ↓v_ix3, ↓v_ix4, ↓v_ix5, ↓v_src, ↓v_perm, ↓wn_0, ↓wn_S, ↓wn_a0, ↓wn_aS, ↓wn_an, ↓dr_n, ↓dr_c, ↓wr_n, ↓wr_c, c_eqI, c_neI, c_ltI, c_gtI, c_leI, c_geI, d_ltI, d_gtI, d_leI, d_geI, c_isN, c_isntN, kindS, items_tup, true_and, and_true, ln_0, ln_1, ln_2, ln_3, ln_4, ln_5, ln_6, ln_7, ln_8, ln_9, ln_10, ln_11, ln_12, ln_13, ln_14, ln_15, ln_16, ln_17, ln_18, ln_19, ln_20]
    refine Ldraw_ok (by omega) d4 fun n5 h5 l5 d5 s5 => ?_
    have s25 := (s3.trans s4).trans s5
    have a5 := a2.same s25 hb
    have la : a.length + 1 ≤ nk := by
      have : (a ++ x :: r).length = nk := by rw [← ea, List.length_range]
      simp only [List.length_append, List.length_cons] at this
      omega
    have psh := push_lst (v := encM ⟨decide ((n3 : Int) = 0), decide ((n4 : Int) = 0), wt, n5⟩) a5.ak (by simp only [List.length_map, maxLen]; omega)
    simp only [encM] at psh
    have aw := a5.setK (ki ++ [⟨decide ((n3 : Int) = 0), decide ((n4 : Int) = 0), wt, n5⟩])
    simp only [List.map_append, List.map_cons, List.map_nil, encM] at aw
    have bk := a5.bk
    simp -dsimp -failIfUnchanged only [↓wsq_n, ↓wsq_r, ↓wfin_n, ↓wfin_r, ↓ws_nil, ↓ws_cons, ↓ws_expr, ↓ws_set, ↓ws_ret, ↓ws_iff, ↓ws_pass, ↓ws_fb, ↓ws_for, ↓ws_while, ↓ws_wc, ↓ws_wb, ↓wt_tup, ↓wt_nil, ↓wt_cons, ↓wt_sub, ↓wt_fld, ↓we_slot, ↓we_lit, ↓we_op, ↓we_cmp, ↓we_chain, ↓we_nt, ↓we_neg, ↓we_an, ↓we_orr, ↓we_ite, ↓we_tup, ↓we_lst, ↓we_dct, ↓we_sub, ↓we_slc, ↓we_rev, ↓we_fld, ↓we_call, ↓wmk_n, ↓we_mk, ↓we_meth, ↓we_blt, ↓we_bm, ↓we_lc, ↓wes_nil, ↓wes_cons, ↓wes_star, ↓wts_nil, ↓wts_cons, ↓wo_none, ↓wo_some, ↓wi_e, ↓wi_r1, ↓wi_r2, ↓wi_enum, ↓wi_enumS, ↓wi_zip, ↓wnx_n, ↓wnx_r, ↓blq, ↓v_kindS, ↓wb_join, ↓wb_app, ↓wb_pop, ↓wb_ext, ↓wo_lift, ↓x_name, ↓x_lb, ↓x_aug, ↓x_isi, ↓v_isI, ↓v_isB, ↓v_isS, ↓v_isT, ↓v_lenT, ↓v_int, ↓v_max2, ↓v_all, ↓v_any, ↓v_tupL, ↓v_disp0, ↓wk_ok, ↓wo_s, ↓wp_s, ↓wi_i, ↓v_slot0, ↓v_slotS, ↓ss_0, ↓ss_S, ↓sr_n, ↓sr_c, ↓sw_n, ↓sw_c, ↓v_opI, ↓v_add, ↓v_sub, ↓v_tr, ↓v_trO, ↓wf_t, ↓wf_f, ↓v_ix0, ↓v_ix1, ↓v_ix2, ↓v_ix3, ↓v_ix4, ↓v_ix5, ↓v_src, ↓v_perm, ↓wn_0, ↓wn_S, ↓wn_a0, ↓wn_aS, ↓wn_an, ↓dr_n, ↓dr_c, ↓wr_n, ↓wr_c, c_eqI, c_neI, c_ltI, c_gtI, c_leI, c_geI, d_ltI, d_gtI, d_leI, d_geI, c_isN, c_isntN, kindS, items_tup, true_and, and_true, ln_0, ln_1, ln_2, ln_3, ln_4, ln_5, ln_6, ln_7, ln_8, ln_9, ln_10, ln_11, ln_12, ln_13, ln_14, ln_15, ln_16, ln_17, ln_18, ln_19, ln_20, kind_lst a5.ak, psh, nm_n]
    refine ⟨_, _, ki ++ [⟨decide ((n3 : Int) = 0), decide ((n4 : Int) = 0), wt, n5⟩], rfl, d5.set (by omega) (by omega), (s02.trans s25).set (.inr bk), aw, by simp; omega, ?_⟩
    intro m hm
    rcases List.mem_append.mp hm with hm | hm
    · exact oki m hm
    · rw [List.mem_singleton.mp hm]
      exact ⟨lwt, by simp only; omega⟩
  rintro σ h7 ⟨u5, u17, ki, rfl, d7, s7, a7, lki, oki⟩
  simp only [List.length_range] at lki
  clear a6 d6 s6
  simp -dsimp -failIfUnchanged only [↓wsq_n, ↓wsq_r, ↓wfin_n, ↓wfin_r, ↓ws_nil, ↓ws_cons, ↓ws_expr, ↓ws_set, ↓ws_ret, ↓ws_iff, ↓ws_pass, ↓ws_fb, ↓ws_for, ↓ws_while, ↓ws_wc, ↓ws_wb, ↓wt_tup, ↓wt_nil, ↓wt_cons, ↓wt_sub, ↓wt_fld, ↓we_slot, ↓we_lit, ↓we_op, ↓we_cmp, ↓we_chain, ↓we_nt, ↓we_neg, ↓we_an, ↓we_orr, ↓we_ite, ↓we_tup, ↓we_lst, ↓we_dct, ↓we_sub, ↓we_slc, ↓we_rev, ↓we_fld, ↓we_call, ↓wmk_n, ↓we_mk, ↓we_meth, ↓we_blt, ↓we_bm, ↓we_lc, ↓wes_nil, ↓wes_cons, ↓wes_star, ↓wts_nil, ↓wts_cons, ↓wo_none, ↓wo_some, ↓wi_e, ↓wi_r1, ↓wi_r2, ↓wi_enum, ↓wi_enumS, ↓wi_zip, ↓wnx_n, ↓wnx_r, ↓blq, ↓v_kindS, ↓wb_join, ↓wb_app, ↓wb_pop, ↓wb_ext, ↓wo_lift, ↓x_name, ↓x_lb, ↓x_aug, ↓x_isi, ↓v_isI, ↓v_isB, ↓v_isS, ↓v_isT, ↓v_lenT, ↓v_int, ↓v_max2, ↓v_all, ↓v_any, ↓v_tupL, ↓v_disp0, ↓wk_ok, ↓wo_s, ↓wp_s, ↓wi_i, ↓v_slot0, ↓v_slotS, ↓ss_0, ↓ss_S, ↓sr_n, ↓sr_c, ↓sw_n, ↓sw_c, ↓v_opI, ↓v_add, ↓v_sub, ↓v_tr, ↓v_trO, ↓wf_t, ↓wf_f, ↓v_ix0, ↓v_ix1, ↓v_ix2, ↓v_ix3, ↓v_ix4, ↓v_ix5, ↓v_src, ↓v_perm, ↓wn_0, ↓wn_S, ↓wn_a0, ↓wn_aS, ↓wn_an, ↓dr_n, ↓dr_c, ↓wr_n, ↓wr_c, c_eqI, c_neI, c_ltI, c_gtI, c_leI, c_geI, d_ltI, d_gtI, d_leI, d_geI, c_isN, c_isntN, kindS, items_tup, true_and, and_true, ln_0, ln_1, ln_2, ln_3, ln_4, ln_5, ln_6, ln_7, ln_8, ln_9, ln_10, ln_11, ln_12, ln_13, ln_14, ln_15, ln_16, ln_17, ln_18, ln_19, ln_20, o_mulL (i := 2) rfl]
  refine Ldraw_ok (by omega) d7 fun n2 h8 ln2 d8 s8 => ?_
  simp -dsimp -failIfUnchanged only [↓wsq_n, ↓wsq_r, ↓wfin_n, ↓wfin_r, ↓ws_nil, ↓ws_cons, ↓ws_expr, ↓ws_set, ↓ws_ret, ↓ws_iff, ↓ws_pass, ↓ws_fb, ↓ws_for, ↓ws_while, ↓ws_wc, ↓ws_wb, ↓wt_tup, ↓wt_nil, ↓wt_cons, ↓wt_sub, ↓wt_fld, ↓we_slot, ↓we_lit, ↓we_op, ↓we_cmp, ↓we_chain, ↓we_nt, ↓we_neg, ↓we_an, ↓we_orr, ↓we_ite, ↓we_tup, ↓we_lst, ↓we_dct, ↓we_sub, ↓we_slc, ↓we_rev, ↓we_fld, ↓we_call, ↓wmk_n, ↓we_mk, ↓we_meth, ↓we_blt, ↓we_bm, ↓we_lc, ↓wes_nil, ↓wes_cons, ↓wes_star, ↓wts_nil, ↓wts_cons, ↓wo_none, ↓wo_some, ↓wi_e, ↓wi_r1, ↓wi_r2, ↓wi_enum, ↓wi_enumS, ↓wi_zip, ↓wnx_n, ↓wnx_r, ↓blq, ↓v_kindS, ↓wb_join, ↓wb_app, ↓wb_pop, ↓wb_ext, ↓wo_lift, ↓x_name, ↓x_lb, ↓x_aug, ↓x_isi, ↓v_isI, ↓v_isB, ↓v_isS, ↓v_isT, ↓v_lenT, ↓v_int, ↓v_max2, ↓v_all, ↓v_any, ↓v_tupL, ↓v_disp0, ↓wk_ok, ↓wo_s, ↓wp_s, ↓wi_i, ↓v_slot0, ↓v_slotS, ↓ss_0, ↓ss_S, ↓sr_n, ↓sr_c, ↓sw_n, ↓sw_c, ↓v_opI, ↓v_add, ↓v_sub, ↓v_tr, ↓v_trO, ↓wf_t, ↓wf_f, ↓v_ix0, ↓v_ix1, ↓v_ix2, ↓v_ix3, ↓v_ix4, ↓v_ix5, ↓v_src, ↓v_perm, ↓wn_0, ↓wn_S, ↓wn_a0, ↓wn_aS, ↓wn_an, ↓dr_n, ↓dr_c, ↓wr_n, ↓wr_c, c_eqI, c_neI, c_ltI, c_gtI, c_leI, c_geI, d_ltI, d_gtI, d_leI, d_geI, c_isN, c_isntN, kindS, items_tup, true_and, and_true, ln_0, ln_1, ln_2, ln_3, ln_4, ln_5, ln_6, ln_7, ln_8, ln_9, ln_10, ln_11, ln_12, ln_13, ln_14, ln_15, ln_16, ln_17, ln_18, ln_19, ln_20]
  refine ⟨by simp [okRange]; omega, ?_⟩
  refine w_for natD (List.range n2) (fun a r σ h' => ∃ t5 la, σ = [some (.ref i), some (.int top), some (.int wd), some (.int nk), some (.tup (sp.map .int)), t5, some (.ref w), t7, t8, t9, t10, t11, t12, t13, t14, t15, t16, u17] ∧ Deck h' i j ∧ Same h h' [i, j] ∧ AtW h' w h.length ⟨sp, st, be, ki, la⟩ ls lk ll ∧ la.length = a.length ∧ (∀ m ∈ la, OkR nk m)) (fun a r σ h1 e z => at_range) ?_ ?_ ⟨_, [], rfl, d8, s7.trans s8, a7.same s8 hb, rfl, by simp⟩
  · rintro a x r σ h1 ea ⟨v5, la, rfl, d1, s1, a1, lla, ola⟩
    simp -dsimp -failIfUnchanged only [↓wsq_n, ↓wsq_r, ↓wfin_n, ↓wfin_r, ↓ws_nil, ↓ws_cons, ↓ws_expr, ↓ws_set, ↓ws_ret, ↓ws_iff, ↓ws_pass, ↓ws_fb, ↓ws_for, ↓ws_while, ↓ws_wc, ↓ws_wb, ↓wt_tup, ↓wt_nil, ↓wt_cons, ↓wt_sub, ↓wt_fld, ↓we_slot, ↓we_lit, ↓we_op, ↓we_cmp, ↓we_chain, ↓we_nt, ↓we_neg, ↓we_an, ↓we_orr, ↓we_ite, ↓we_tup, ↓we_lst, ↓we_dct, ↓we_sub, ↓we_slc, ↓we_rev, ↓we_fld, ↓we_call, ↓wmk_n, ↓we_mk, ↓we_meth, ↓we_blt, ↓we_bm, ↓we_lc, ↓wes_nil, ↓wes_cons, ↓wes_star, ↓wts_nil, ↓wts_cons, ↓wo_none, ↓wo_some, ↓wi_e, ↓wi_r1, ↓wi_r2, ↓wi_enum, ↓wi_enumS, ↓wi_zip, ↓wnx_n, ↓wnx_r, ↓blq, ↓v_kindS, ↓wb_join, ↓wb_app, ↓wb_pop, ↓wb_ext, ↓wo_lift, ↓x_name, ↓x_lb, ↓x_aug, ↓x_isi, ↓v_isI, ↓v_isB, ↓v_isS, ↓v_isT, ↓v_lenT, ↓v_int, ↓v_max2, ↓v_all, ↓v_any, ↓v_tupL, ↓v_disp0, ↓wk_ok, ↓wo_s, ↓wp_s, ↓wi_i, ↓v_slot0, ↓v_slotS, ↓ss_0, ↓ss_S, ↓sr_n, ↓sr_c, ↓sw_n, ↓sw_c, ↓v_opI, ↓v_add, ↓v_sub, ↓v_tr, ↓v_trO, ↓wf_t, ↓wf_f, ↓v_ix0, ↓v_ix1, ↓v_ix2, ↓v_ix3, ↓v_ix4, ↓v_ix5, ↓v_src, ↓v_perm, ↓wn_0, ↓wn_S, ↓wn_a0, ↓wn_aS, ↓wn_an, ↓dr_n, ↓dr_c, ↓wr_n, ↓wr_c, c_eqI, c_neI, c_ltI, c_gtI, c_leI, c_geI, d_ltI, d_gtI, d_leI, d_geI, c_isN, c_isntN, kindS, items_tup, true_and, and_true, ln_0, ln_1, ln_2, ln_3, ln_4, ln_5, ln_6, ln_7, ln_8, ln_9, ln_10, ln_11, ln_12, ln_13, ln_14, ln_15, ln_16, ln_17, ln_18, ln_19, ln_20, w_laws a1.aw, kind_lst a1.al]
    refine Ldraw_ok (by omega) d1 fun n3 h2 l3 d2 s2 => ?_
    simp -dsimp -failIfUnchanged only [↓wsq_n, ↓wsq_r, ↓wfin_n, ↓wfin_r, ↓ws_nil, ↓ws_cons, ↓ws_expr, ↓ws_set, ↓ws_ret, ↓ws_iff, ↓ws_pass, ↓ws_fb, ↓ws_for, ↓ws_while, ↓ws_wc, ↓ws_wb, ↓wt_tup, ↓wt_nil, ↓wt_cons, ↓wt_sub, ↓wt_fld, ↓we_slot, ↓we_lit, ↓we_op, ↓we_cmp, ↓we_chain, ↓we_nt, ↓we_neg, ↓we_an, ↓we_orr, ↓we_ite, ↓we_tup, ↓we_lst, ↓we_dct, ↓we_sub, ↓we_slc, ↓we_rev, ↓we_fld, ↓we_call, ↓wmk_n, ↓we_mk, ↓we_meth, ↓we_blt, ↓we_bm, ↓we_lc, ↓wes_nil, ↓wes_cons, ↓wes_star, ↓wts_nil, ↓wts_cons, ↓wo_none, ↓wo_some, ↓wi_e, ↓wi_r1, ↓wi_r2, ↓wi_enum, ↓wi_enumS, ↓wi_zip, ↓wnx_n, ↓wnx_r, ↓blq, ↓v_kindS, ↓wb_join, ↓wb_app, ↓wb_pop, ↓wb_ext, ↓wo_lift, ↓x_name, ↓x_lb, ↓x_aug, ↓x_isi, ↓v_isI, ↓v_isB, ↓v_isS, ↓v_isT, ↓v_lenT, ↓v_int, ↓v_max2, ↓v_all, ↓v_any, ↓v_tupL, ↓v_disp0, ↓wk_ok, ↓wo_s, ↓wp_s, ↓wi_i, ↓v_slot0, ↓v_slotS, ↓ss_0, ↓ss_S, ↓sr_n, ↓sr_c, ↓sw_n, ↓sw_c, ↓v_opI, ↓v_add, ↓v_sub, ↓v_tr, ↓v_trO, ↓wf_t, ↓wf_f, ↓v_ix0, ↓v_ix1, ↓v_ix2, ↓v_ix3, ↓v_ix4, ↓v_ix5, ↓v_src, ↓v_perm, ↓wn_0, ↓wn_S, ↓wn_a0, ↓wn_aS, ↓wn_an, ↓dr_n, ↓dr_c, ↓wr_n, ↓wr_c, c_eqI, c_neI, c_ltI, c_gtI, c_leI, c_geI, d_ltI, d_gtI, d_leI, d_geI, c_isN, c_isntN, kindS, items_tup, true_and, and_true, ln_0, ln_1, ln_2, ln_3, ln_4, ln_5, ln_6, ln_7, ln_8, ln_9, ln_10, ln_11, ln_12, ln_13, ln_14, ln_15, ln_16, ln_17, ln_18, ln_19, ln_20]
    refine Lpick_ok lst_new (by simp) (by simp) (d2.same same_new) (by have := (s1.trans s2).1; omega) (by have := (s1.trans s2).1; omega) fun p h3 hp d3 s3 => ?_
    have : ∃ c : Nat, p = sgD c ∧ (c = 65 ∨ c = 66 ∨ c = 67) := by
      simp only [List.mem_cons, List.not_mem_nil, or_false] at hp
      rcases hp with rfl | rfl | rfl
      · exact ⟨65, rfl, by omega⟩
      · exact ⟨66, rfl, by omega⟩
      · exact ⟨67, rfl, by omega⟩
    obtain ⟨c, rfl, oc⟩ := this
    simp -dsimp -failIfUnchanged only [↓wsq_n, ↓wsq_r, ↓wfin_n, ↓wfin_r, ↓ws_nil, ↓ws_cons, ↓ws_expr, ↓ws_set, ↓ws_ret, ↓ws_iff, ↓ws_pass, ↓ws_fb, ↓ws_for, ↓ws_while, ↓ws_wc, ↓ws_wb, ↓wt_tup, ↓wt_nil, ↓wt_cons, ↓wt_sub, ↓wt_fld, ↓we_slot, ↓we_lit, ↓we_op, ↓we_cmp, ↓we_chain, ↓we_nt, ↓we_neg, ↓we_an, ↓we_orr, ↓we_ite, ↓we_tup, ↓we_lst, ↓we_dct, ↓we_sub, ↓we_slc, ↓we_rev, ↓we_fld, ↓we_call, ↓wmk_n, ↓we_mk, ↓we_meth, ↓we_blt, ↓we_bm, ↓we_lc, ↓wes_nil, ↓wes_cons, ↓wes_star, ↓wts_nil, ↓wts_cons, ↓wo_none, ↓wo_some, ↓wi_e, ↓wi_r1, ↓wi_r2, ↓wi_enum, ↓wi_enumS, ↓wi_zip, ↓wnx_n, ↓wnx_r, ↓blq, ↓v_kindS, ↓wb_join, ↓wb_app, ↓wb_pop, ↓wb_ext, ↓wo_lift, ↓x_name, ↓x_lb, ↓x_aug, ↓x_isi, ↓v_isI, ↓v_isB, ↓v_isS, ↓v_isT, ↓v_lenT, ↓v_int, ↓v_max2, ↓v_all, ↓v_any, ↓v_tupL, ↓v_disp0, ↓wk_ok, ↓wo_s, ↓wp_s, ↓wi_i, ↓v_slot0, ↓v_slotS, ↓ss_0, ↓ss_S, ↓sr_n, ↓sr_c, ↓sw_n, ↓sw_c, ↓v_opI, ↓v_add, ↓v_sub, ↓v_tr, ↓v_trO, ↓wf_t, ↓wf_f, ↓v_ix0, ↓v_ix1, ↓v_ix2, ↓v_ix3, ↓v_ix4, ↓v_ix5, ↓v_src, ↓v_perm, ↓wn_0, ↓wn_S, ↓wn_a0, ↓wn_aS, ↓wn_an, ↓dr_n, ↓dr_c, ↓wr_n, ↓wr_c, c_eqI, c_neI, c_ltI, c_gtI, c_leI, c_geI, d_ltI, d_gtI, d_leI, d_geI, c_isN, c_isntN, kindS, items_tup, true_and, and_true, ln_0, ln_1, ln_2, ln_3, ln_4, ln_5, ln_6, ln_7, ln_8, ln_9, ln_10, ln_11, ln_12, ln_13, ln_14, ln_15, ln_16, ln_17, ln_18, ln_19, ln_20]
    refine Ldraw_ok (by omega) d3 fun n5 h5 l5 d5 s5 => ?_
    have s15 := ((s2.new (c := .lst [.str "A", .str "B", .str "C"])).trans s3).trans s5
    have a5 := a1.same s15 hb
    have ll1 : a.length + 1 ≤ n2 := by
      have : (a ++ x :: r).length = n2 := by rw [← ea, List.length_range]
      simp only [List.length_append, List.length_cons] at this
      omega
    have psh := push_lst (v := encR ⟨n3, c, n5⟩) a5.al (by simp only [List.length_map, maxLen]; omega)
    simp only [encR] at psh
    have aw := a5.setL (la ++ [⟨n3, c, n5⟩])
    simp only [List.map_append, List.map_cons, List.map_nil, encR] at aw
    have bl := a5.bl
    simp -dsimp -failIfUnchanged only [↓wsq_n, ↓wsq_r, ↓wfin_n, ↓wfin_r, ↓ws_nil, ↓ws_cons, ↓ws_expr, ↓ws_set, ↓ws_ret, ↓ws_iff, ↓ws_pass, ↓ws_fb, ↓ws_for, ↓ws_while, ↓ws_wc, ↓ws_wb, ↓wt_tup, ↓wt_nil, ↓wt_cons, ↓wt_sub, ↓wt_fld, ↓we_slot, ↓we_lit, ↓we_op, ↓we_cmp, ↓we_chain, ↓we_nt, ↓we_neg, ↓we_an, ↓we_orr, ↓we_ite, ↓we_tup, ↓we_lst, ↓we_dct, ↓we_sub, ↓we_slc, ↓we_rev, ↓we_fld, ↓we_call, ↓wmk_n, ↓we_mk, ↓we_meth, ↓we_blt, ↓we_bm, ↓we_lc, ↓wes_nil, ↓wes_cons, ↓wes_star, ↓wts_nil, ↓wts_cons, ↓wo_none, ↓wo_some, ↓wi_e, ↓wi_r1, ↓wi_r2, ↓wi_enum, ↓wi_enumS, ↓wi_zip, ↓wnx_n, ↓wnx_r, ↓blq, ↓v_kindS, ↓wb_join, ↓wb_app, ↓wb_pop, ↓wb_ext, ↓wo_lift, ↓x_name, ↓x_lb, ↓x_aug, ↓x_isi, ↓v_isI, ↓v_isB, ↓v_isS, ↓v_isT, ↓v_lenT, ↓v_int, ↓v_max2, ↓v_all, ↓v_any, ↓v_tupL, ↓v_disp0, ↓wk_ok, ↓wo_s, ↓wp_s, ↓wi_i, ↓v_slot0, ↓v_slotS, ↓ss_0, ↓ss_S, ↓sr_n, ↓sr_c, ↓sw_n, ↓sw_c, ↓v_opI, ↓v_add, ↓v_sub, ↓v_tr, ↓v_trO, ↓wf_t, ↓wf_f, ↓v_ix0, ↓v_ix1, ↓v_ix2, ↓v_ix3, ↓v_ix4, ↓v_ix5, ↓v_src, ↓v_perm, ↓wn_0, ↓wn_S, ↓wn_a0, ↓wn_aS, ↓wn_an, ↓dr_n, ↓dr_c, ↓wr_n, ↓wr_c, c_eqI, c_neI, c_ltI, c_gtI, c_leI, c_geI, d_ltI, d_gtI, d_leI, d_geI, c_isN, c_isntN, kindS, items_tup, true_and, and_true, ln_0, ln_1, ln_2, ln_3, ln_4, ln_5, ln_6, ln_7, ln_8, ln_9, ln_10, ln_11, ln_12, ln_13, ln_14, ln_15, ln_16, ln_17, ln_18, ln_19, ln_20, kind_lst a5.al, psh, nm_n]
    refine ⟨_, la ++ [⟨n3, c, n5⟩], rfl, d5.set (by omega) (by omega), (s1.trans s15).set (.inr bl), aw, by simp; omega, ?_⟩
    intro m hm
    rcases List.mem_append.mp hm with hm | hm
    · exact ola m hm
    · rw [List.mem_singleton.mp hm]
      exact ⟨by simp only; omega, by simp only; omega, oc⟩
  rintro σ h9 ⟨v5, la, rfl, d9, s9, a9, lla, ola⟩
  simp only [List.length_range] at lla
  simp -dsimp -failIfUnchanged only [↓wsq_n, ↓wsq_r, ↓wfin_n, ↓wfin_r, ↓ws_nil, ↓ws_cons, ↓ws_expr, ↓ws_set, ↓ws_ret, ↓ws_iff, ↓ws_pass, ↓ws_fb, ↓ws_for, ↓ws_while, ↓ws_wc, ↓ws_wb, ↓wt_tup, ↓wt_nil, ↓wt_cons, ↓wt_sub, ↓wt_fld, ↓we_slot, ↓we_lit, ↓we_op, ↓we_cmp, ↓we_chain, ↓we_nt, ↓we_neg, ↓we_an, ↓we_orr, ↓we_ite, ↓we_tup, ↓we_lst, ↓we_dct, ↓we_sub, ↓we_slc, ↓we_rev, ↓we_fld, ↓we_call, ↓wmk_n, ↓we_mk, ↓we_meth, ↓we_blt, ↓we_bm, ↓we_lc, ↓wes_nil, ↓wes_cons, ↓wes_star, ↓wts_nil, ↓wts_cons, ↓wo_none, ↓wo_some, ↓wi_e, ↓wi_r1, ↓wi_r2, ↓wi_enum, ↓wi_enumS, ↓wi_zip, ↓wnx_n, ↓wnx_r, ↓blq, ↓v_kindS, ↓wb_join, ↓wb_app, ↓wb_pop, ↓wb_ext, ↓wo_lift, ↓x_name, ↓x_lb, ↓x_aug, ↓x_isi, ↓v_isI, ↓v_isB, ↓v_isS, ↓v_isT, ↓v_lenT, ↓v_int, ↓v_max2, ↓v_all, ↓v_any, ↓v_tupL, ↓v_disp0, ↓wk_ok, ↓wo_s, ↓wp_s, ↓wi_i, ↓v_slot0, ↓v_slotS, ↓ss_0, ↓ss_S, ↓sr_n, ↓sr_c, ↓sw_n, ↓sw_c, ↓v_opI, ↓v_add, ↓v_sub, ↓v_tr, ↓v_trO, ↓wf_t, ↓wf_f, ↓v_ix0, ↓v_ix1, ↓v_ix2, ↓v_ix3, ↓v_ix4, ↓v_ix5, ↓v_src, ↓v_perm, ↓wn_0, ↓wn_S, ↓wn_a0, ↓wn_aS, ↓wn_an, ↓dr_n, ↓dr_c, ↓wr_n, ↓wr_c, c_eqI, c_neI, c_ltI, c_gtI, c_leI, c_geI, d_ltI, d_gtI, d_leI, d_geI, c_isN, c_isntN, kindS, items_tup, true_and, and_true, ln_0, ln_1, ln_2, ln_3, ln_4, ln_5, ln_6, ln_7, ln_8, ln_9, ln_10, ln_11, ln_12, ln_13, ln_14, ln_15, ln_16, ln_17, ln_18, ln_19, ln_20]
  refine q h9 w ls lk ll ⟨sp, st, be, ki, la⟩ ⟨?_, ?_, hsp, ?_, ?_, ?_, ?_, ?_, ?_, ?_, ?_, l4⟩ a9 d9 s9
  · intro z; simp only at z; rw [z] at lsp; simp at lsp; omega
  · simp only; omega
  · intro z; simp only at z; rw [z] at lki; simp at lki; omega
  · simp only; omega
  · simp only [lki]; exact oki
  · simp only; omega
  · simp only [lki]; exact ola
  · simp only [lsp]; exact hbe
  · simp only; omega
  · simp only [lki]; exact okv
end
end Lw
end
section
set_option autoImplicit false
set_option Elab.async false
set_option linter.all false
set_option maxRecDepth 8000
set_option maxHeartbeats 4000000
namespace Lw
open PySem Q Qw
section
variable {X : Ex} {k : Nat} {h : Hh} {Q : D → Hh → Prop} {w b ls lk ll : Nat} {W : Wd}
theorem Lgoes_ok {m a : Nat} {y : Str} (aw : AtW h w b W ls lk ll) (vs : ValidS W.kinds (m, a))
    (q : Q (encA (goesP W.kinds W.laws m a y.cps.toList)) h) : Wk X Q (fnAt P (k + 1) F_Lgoes [.ref w, .int m, .int a, .str y] h) := by
  rw [r_Lgoes]
  unfold T_Lgoes
  obtain ⟨md, emd, lmd⟩ := vs
  simp only at emd lmd
  have sub1 : subD h (.ref lk) (.int (m : Nat)) = some (encM md) := by rw [sub_lst (lst_get aw.ak), List.getElem?_map, emd]; rfl
  simp -dsimp -failIfUnchanged only [↓wsq_n, ↓wsq_r, ↓wfin_n, ↓wfin_r, ↓ws_nil, ↓ws_cons, ↓ws_expr, ↓ws_set, ↓ws_ret, ↓ws_iff, ↓ws_pass, ↓ws_fb, ↓ws_for, ↓ws_while, ↓ws_wc, ↓ws_wb, ↓wt_tup, ↓wt_nil, ↓wt_cons, ↓wt_sub, ↓wt_fld, ↓we_slot, ↓we_lit, ↓we_op, ↓we_cmp, ↓we_chain, ↓we_nt, ↓we_neg, ↓we_an, ↓we_orr, ↓we_ite, ↓we_tup, ↓we_lst, ↓we_dct, ↓we_sub, ↓we_slc, ↓we_rev, ↓we_fld, ↓we_call, ↓wmk_n, ↓we_mk, ↓we_meth, ↓we_blt, ↓we_bm, ↓we_lc, ↓wes_nil, ↓wes_cons, ↓wes_star, ↓wts_nil, ↓wts_cons, ↓wo_none, ↓wo_some, ↓wi_e, ↓wi_r1, ↓wi_r2, ↓wi_enum, ↓wi_enumS, ↓wi_zip, ↓wnx_n, ↓wnx_r, ↓blq, ↓v_kindS, ↓wb_join, ↓wb_app, ↓wb_pop, ↓wb_ext, ↓wo_lift, ↓x_name, ↓x_lb, ↓x_aug, ↓x_isi, ↓v_isI, ↓v_isB, ↓v_isS, ↓v_isT, ↓v_lenT, ↓v_int, ↓v_max2, ↓v_all, ↓v_any, ↓v_tupL, ↓v_disp0, ↓wk_ok, ↓wo_s, ↓wp_s, ↓wi_i, ↓v_slot0, ↓v_slotS, ↓ss_0, ↓ss_S, ↓sr_n, ↓sr_c, ↓sw_n, ↓sw_c, ↓v_opI, ↓v_add, ↓v_sub, ↓v_tr, ↓v_trO, ↓wf_t, ↓wf_f, ↓v_ix0, ↓v_ix1, ↓v_ix2, ↓v_ix3, ↓v_ix4, ↓v_ix5, ↓v_src, ↓v_perm, ↓wn_0, ↓wn_S, ↓wn_a0, ↓wn_aS, ↓wn_an, ↓dr_n, ↓dr_c, ↓wr_n, ↓wr_c, c_eqI, c_neI, c_ltI, c_gtI, c_leI, c_geI, d_ltI, d_gtI, d_leI, d_geI, c_isN, c_isntN, kindS, items_tup, true_and, and_true, ln_0, ln_1, ln_2, ln_3, ln_4, ln_5, ln_6, ln_7, ln_8, ln_9, ln_10, ln_11, ln_12, ln_13, ln_14, ln_15, ln_16, ln_17, ln_18, ln_19, ln_20, w_laws aw.aw, src_lst (lst_get aw.al)]
  refine w_for encR W.laws (fun a1 r σ h' => h' = h ∧ ∃ s4 s5 s6, σ = [some (.ref w), some (.int m), some (.int a), some (.str y), s4, s5, s6, none] ∧ r.find? (fun r => decide (r.here = m) && decide (r.sig ∈ y.cps.toList)) = W.laws.find? (fun r => decide (r.here = m) && decide (r.sig ∈ y.cps.toList))) (fun a r σ h1 e z => at_cell (by simp) (lst_get (z.1 ▸ aw.al))) ?_ ?_ ⟨rfl, _, _, _, rfl, rfl⟩
  · rintro a1 x r σ h' e ⟨rfl, s4, s5, s6, rfl, ef⟩
    ((try simp -dsimp -failIfUnchanged only [↓wsq_n, ↓wsq_r, ↓wfin_n, ↓wfin_r, ↓ws_nil, ↓ws_cons, ↓ws_expr, ↓ws_set, ↓ws_ret, ↓ws_iff, ↓ws_pass, ↓ws_fb, ↓ws_for, ↓ws_while, ↓ws_wc, ↓ws_wb, ↓wt_tup, ↓wt_nil, ↓wt_cons, ↓wt_sub, ↓wt_fld, ↓we_slot, ↓we_lit, ↓we_op, ↓we_cmp, ↓we_chain, ↓we_nt, ↓we_neg, ↓we_an, ↓we_orr, ↓we_ite, ↓we_tup, ↓we_lst, ↓we_dct, ↓we_sub, ↓we_slc, ↓we_rev, ↓we_fld, ↓we_call, ↓wmk_n, ↓we_mk, ↓we_meth, ↓we_blt, ↓we_bm, ↓we_lc, ↓wes_nil, ↓wes_cons, ↓wes_star, ↓wts_nil, ↓wts_cons, ↓wo_none, ↓wo_some, ↓wi_e, ↓wi_r1, ↓wi_r2, ↓wi_enum, ↓wi_enumS, ↓wi_zip, ↓wnx_n, ↓wnx_r, ↓blq, ↓v_kindS, ↓wb_join, ↓wb_app, ↓wb_pop, ↓wb_ext, ↓wo_lift, ↓x_name, ↓x_lb, ↓x_aug, ↓x_isi, ↓v_isI, ↓v_isB, ↓v_isS, ↓v_isT, ↓v_lenT, ↓v_int, ↓v_max2, ↓v_all, ↓v_any, ↓v_tupL, ↓v_disp0, ↓wk_ok, ↓wo_s, ↓wp_s, ↓wi_i, ↓v_slot0, ↓v_slotS, ↓ss_0, ↓ss_S, ↓sr_n, ↓sr_c, ↓sw_n, ↓sw_c, ↓v_opI, ↓v_add, ↓v_sub, ↓v_tr, ↓v_trO, ↓wf_t, ↓wf_f, ↓v_ix0, ↓v_ix1, ↓v_ix2, ↓v_ix3, ↓v_ix4, ↓v_ix5, ↓v_src, ↓v_perm, ↓wn_0, ↓wn_S, ↓wn_a0, ↓wn_aS, ↓wn_an, ↓dr_n, ↓dr_c, ↓wr_n, ↓wr_c, c_eqI, c_neI, c_ltI, c_gtI, c_leI, c_geI, d_ltI, d_gtI, d_leI, d_geI, c_isN, c_isntN, kindS, items_tup, true_and, and_true, ln_0, ln_1, ln_2, ln_3, ln_4, ln_5, ln_6, ln_7, ln_8, ln_9, ln_10, ln_11, ln_12, ln_13, ln_14, ln_15, ln_16, ln_17, ln_18, ln_19, ln_20, encR, c_inC, nm_n, nm_r]); (repeat' (refine wf_i (fun hz => ?_) (fun hz => ?_) <;> (try simp -dsimp -failIfUnchanged only [↓wsq_n, ↓wsq_r, ↓wfin_n, ↓wfin_r, ↓ws_nil, ↓ws_cons, ↓ws_expr, ↓ws_set, ↓ws_ret, ↓ws_iff, ↓ws_pass, ↓ws_fb, ↓ws_for, ↓ws_while, ↓ws_wc, ↓ws_wb, ↓wt_tup, ↓wt_nil, ↓wt_cons, ↓wt_sub, ↓wt_fld, ↓we_slot, ↓we_lit, ↓we_op, ↓we_cmp, ↓we_chain, ↓we_nt, ↓we_neg, ↓we_an, ↓we_orr, ↓we_ite, ↓we_tup, ↓we_lst, ↓we_dct, ↓we_sub, ↓we_slc, ↓we_rev, ↓we_fld, ↓we_call, ↓wmk_n, ↓we_mk, ↓we_meth, ↓we_blt, ↓we_bm, ↓we_lc, ↓wes_nil, ↓wes_cons, ↓wes_star, ↓wts_nil, ↓wts_cons, ↓wo_none, ↓wo_some, ↓wi_e, ↓wi_r1, ↓wi_r2, ↓wi_enum, ↓wi_enumS, ↓wi_zip, ↓wnx_n, ↓wnx_r, ↓blq, ↓v_kindS, ↓wb_join, ↓wb_app, ↓wb_pop, ↓wb_ext, ↓wo_lift, ↓x_name, ↓x_lb, ↓x_aug, ↓x_isi, ↓v_isI, ↓v_isB, ↓v_isS, ↓v_isT, ↓v_lenT, ↓v_int, ↓v_max2, ↓v_all, ↓v_any, ↓v_tupL, ↓v_disp0, ↓wk_ok, ↓wo_s, ↓wp_s, ↓wi_i, ↓v_slot0, ↓v_slotS, ↓ss_0, ↓ss_S, ↓sr_n, ↓sr_c, ↓sw_n, ↓sw_c, ↓v_opI, ↓v_add, ↓v_sub, ↓v_tr, ↓v_trO, ↓wf_t, ↓wf_f, ↓v_ix0, ↓v_ix1, ↓v_ix2, ↓v_ix3, ↓v_ix4, ↓v_ix5, ↓v_src, ↓v_perm, ↓wn_0, ↓wn_S, ↓wn_a0, ↓wn_aS, ↓wn_an, ↓dr_n, ↓dr_c, ↓wr_n, ↓wr_c, c_eqI, c_neI, c_ltI, c_gtI, c_leI, c_geI, d_ltI, d_gtI, d_leI, d_geI, c_isN, c_isntN, kindS, items_tup, true_and, and_true, ln_0, ln_1, ln_2, ln_3, ln_4, ln_5, ln_6, ln_7, ln_8, ln_9, ln_10, ln_11, ln_12, ln_13, ln_14, ln_15, ln_16, ln_17, ln_18, ln_19, ln_20, encR, c_inC, nm_n, nm_r, hz]))); (all_goals (try simp only [decide_eq_true_eq, decide_eq_false_iff_not] at *)))
    · have e' : W.laws.find? (fun r => decide (r.here = m) && decide (r.sig ∈ y.cps.toList)) = some x := by rw [← ef, List.find?_cons, show (decide (x.here = m) && decide (x.sig ∈ y.cps.toList)) = true by simp_all; omega]
      simp only [goesP, e'] at q
      exact q
    all_goals refine ⟨_, _, _, rfl, ?_⟩
    all_goals rw [← ef, List.find?_cons, show (decide (x.here = m) && decide (x.sig ∈ y.cps.toList)) = false by simp_all; try omega]
  · rintro σ h' ⟨rfl, s4, s5, s6, rfl, ef⟩
    have e' : W.laws.find? (fun r => decide (r.here = m) && decide (r.sig ∈ y.cps.toList)) = none := ef.symm
    simp only [goesP, e', emd] at q
    ((try simp -dsimp -failIfUnchanged only [↓wsq_n, ↓wsq_r, ↓wfin_n, ↓wfin_r, ↓ws_nil, ↓ws_cons, ↓ws_expr, ↓ws_set, ↓ws_ret, ↓ws_iff, ↓ws_pass, ↓ws_fb, ↓ws_for, ↓ws_while, ↓ws_wc, ↓ws_wb, ↓wt_tup, ↓wt_nil, ↓wt_cons, ↓wt_sub, ↓wt_fld, ↓we_slot, ↓we_lit, ↓we_op, ↓we_cmp, ↓we_chain, ↓we_nt, ↓we_neg, ↓we_an, ↓we_orr, ↓we_ite, ↓we_tup, ↓we_lst, ↓we_dct, ↓we_sub, ↓we_slc, ↓we_rev, ↓we_fld, ↓we_call, ↓wmk_n, ↓we_mk, ↓we_meth, ↓we_blt, ↓we_bm, ↓we_lc, ↓wes_nil, ↓wes_cons, ↓wes_star, ↓wts_nil, ↓wts_cons, ↓wo_none, ↓wo_some, ↓wi_e, ↓wi_r1, ↓wi_r2, ↓wi_enum, ↓wi_enumS, ↓wi_zip, ↓wnx_n, ↓wnx_r, ↓blq, ↓v_kindS, ↓wb_join, ↓wb_app, ↓wb_pop, ↓wb_ext, ↓wo_lift, ↓x_name, ↓x_lb, ↓x_aug, ↓x_isi, ↓v_isI, ↓v_isB, ↓v_isS, ↓v_isT, ↓v_lenT, ↓v_int, ↓v_max2, ↓v_all, ↓v_any, ↓v_tupL, ↓v_disp0, ↓wk_ok, ↓wo_s, ↓wp_s, ↓wi_i, ↓v_slot0, ↓v_slotS, ↓ss_0, ↓ss_S, ↓sr_n, ↓sr_c, ↓sw_n, ↓sw_c, ↓v_opI, ↓v_add, ↓v_sub, ↓v_tr, ↓v_trO, ↓wf_t, ↓wf_f, ↓v_ix0, ↓v_ix1, ↓v_ix2, ↓v_ix3, ↓v_ix4, ↓v_ix5, ↓v_src, ↓v_perm, ↓wn_0, ↓wn_S, ↓wn_a0, ↓wn_aS, ↓wn_an, ↓dr_n, ↓dr_c, ↓wr_n, ↓wr_c, c_eqI, c_neI, c_ltI, c_gtI, c_leI, c_geI, d_ltI, d_gtI, d_leI, d_geI, c_isN, c_isntN, kindS, items_tup, true_and, and_true, ln_0, ln_1, ln_2, ln_3, ln_4, ln_5, ln_6, ln_7, ln_8, ln_9, ln_10, ln_11, ln_12, ln_13, ln_14, ln_15, ln_16, ln_17, ln_18, ln_19, ln_20, w_kinds aw.aw, sub1, encM]); (repeat' (refine wf_i (fun hz => ?_) (fun hz => ?_) <;> (try simp -dsimp -failIfUnchanged only [↓wsq_n, ↓wsq_r, ↓wfin_n, ↓wfin_r, ↓ws_nil, ↓ws_cons, ↓ws_expr, ↓ws_set, ↓ws_ret, ↓ws_iff, ↓ws_pass, ↓ws_fb, ↓ws_for, ↓ws_while, ↓ws_wc, ↓ws_wb, ↓wt_tup, ↓wt_nil, ↓wt_cons, ↓wt_sub, ↓wt_fld, ↓we_slot, ↓we_lit, ↓we_op, ↓we_cmp, ↓we_chain, ↓we_nt, ↓we_neg, ↓we_an, ↓we_orr, ↓we_ite, ↓we_tup, ↓we_lst, ↓we_dct, ↓we_sub, ↓we_slc, ↓we_rev, ↓we_fld, ↓we_call, ↓wmk_n, ↓we_mk, ↓we_meth, ↓we_blt, ↓we_bm, ↓we_lc, ↓wes_nil, ↓wes_cons, ↓wes_star, ↓wts_nil, ↓wts_cons, ↓wo_none, ↓wo_some, ↓wi_e, ↓wi_r1, ↓wi_r2, ↓wi_enum, ↓wi_enumS, ↓wi_zip, ↓wnx_n, ↓wnx_r, ↓blq, ↓v_kindS, ↓wb_join, ↓wb_app, ↓wb_pop, ↓wb_ext, ↓wo_lift, ↓x_name, ↓x_lb, ↓x_aug, ↓x_isi, ↓v_isI, ↓v_isB, ↓v_isS, ↓v_isT, ↓v_lenT, ↓v_int, ↓v_max2, ↓v_all, ↓v_any, ↓v_tupL, ↓v_disp0, ↓wk_ok, ↓wo_s, ↓wp_s, ↓wi_i, ↓v_slot0, ↓v_slotS, ↓ss_0, ↓ss_S, ↓sr_n, ↓sr_c, ↓sw_n, ↓sw_c, ↓v_opI, ↓v_add, ↓v_sub, ↓v_tr, ↓v_trO, ↓wf_t, ↓wf_f, ↓v_ix0, ↓v_ix1, ↓v_ix2, ↓v_ix3, ↓v_ix4, ↓v_ix5, ↓v_src, ↓v_perm, ↓wn_0, ↓wn_S, ↓wn_a0, ↓wn_aS, ↓wn_an, ↓dr_n, ↓dr_c, ↓wr_n, ↓wr_c, c_eqI, c_neI, c_ltI, c_gtI, c_leI, c_geI, d_ltI, d_gtI, d_leI, d_geI, c_isN, c_isntN, kindS, items_tup, true_and, and_true, ln_0, ln_1, ln_2, ln_3, ln_4, ln_5, ln_6, ln_7, ln_8, ln_9, ln_10, ln_11, ln_12, ln_13, ln_14, ln_15, ln_16, ln_17, ln_18, ln_19, ln_20, w_kinds aw.aw, sub1, encM, hz]))); (all_goals (try simp only [decide_eq_true_eq, decide_eq_false_iff_not] at *)))
    · rw [if_pos (by omega)] at q
      exact q
    · rw [if_neg (by omega), if_neg (by omega)] at q
      exact q
    · rw [if_neg (by omega), if_pos (by omega)] at q
      exact q
theorem VP.of {top : Nat} (ok : OkW top W) : VP W.kinds W.laws :=
  ⟨ok.k0, fun m hm => (ok.km m hm).2, fun r hr => (ok.lr r hr).2.1, fun m hm => by have := (ok.km m hm).1; omega, fun r hr => (ok.lr r hr).1, fun r hr => by have := (ok.lr r hr).2.2; omega⟩
theorem sumW_le {ms : List Md} {c : Nat} (h : ∀ m ∈ ms, m.wait ≤ c) : sumW ms ≤ ms.length * (c + 1) := by
  induction ms with
  | nil => simp [sumW]
  | cons m r ih =>
    have h1 := h m (by simp)
    have h2 := ih fun x hx => h x (by simp [hx])
    simp only [sumW, List.map_cons, List.sum_cons, List.length_cons] at h2 ⊢
    rw [Nat.add_mul]
    omega
theorem ints_map {β : Type} {f : β → Int} : ∀ {xs : List β}, intsOf (xs.map fun x => .int (f x)) = some (xs.map f)
  | [] => rfl
  | x :: xs => by simp only [List.map_cons, intsOf, ints_map, Option.map_some]
theorem sum_cast : ∀ xs : List Nat, (xs.map fun x : Nat => (x : Int)).sum = ((xs.sum : Nat) : Int)
  | [] => rfl
  | x :: r => by simp only [List.map_cons, List.sum_cons, sum_cast r]; omega
theorem Ltill_ok {m a : Nat} {top : Nat} (ok : OkW top W) (aw : AtW h w b W ls lk ll) (vs : ValidS W.kinds (m, a))
    (q : ∀ h1 r, Same h h1 [] → Till (goF W.kinds W.laws) (armS W.kinds) (m, a) r → Q (encO r) h1) : Wk X Q (fnAt P (k + 2) F_Ltill [.ref w, .int m, .int a] h) := by
  rw [r_Ltill]
  unfold T_Ltill
  have v := VP.of ok
  have k1 := ok.k1
  have sl := sumW_le (c := 3) fun m hm => (ok.km m hm).1
  simp -dsimp -failIfUnchanged only [↓wsq_n, ↓wsq_r, ↓wfin_n, ↓wfin_r, ↓ws_nil, ↓ws_cons, ↓ws_expr, ↓ws_set, ↓ws_ret, ↓ws_iff, ↓ws_pass, ↓ws_fb, ↓ws_for, ↓ws_while, ↓ws_wc, ↓ws_wb, ↓wt_tup, ↓wt_nil, ↓wt_cons, ↓wt_sub, ↓wt_fld, ↓we_slot, ↓we_lit, ↓we_op, ↓we_cmp, ↓we_chain, ↓we_nt, ↓we_neg, ↓we_an, ↓we_orr, ↓we_ite, ↓we_tup, ↓we_lst, ↓we_dct, ↓we_sub, ↓we_slc, ↓we_rev, ↓we_fld, ↓we_call, ↓wmk_n, ↓we_mk, ↓we_meth, ↓we_blt, ↓we_bm, ↓we_lc, ↓wes_nil, ↓wes_cons, ↓wes_star, ↓wts_nil, ↓wts_cons, ↓wo_none, ↓wo_some, ↓wi_e, ↓wi_r1, ↓wi_r2, ↓wi_enum, ↓wi_enumS, ↓wi_zip, ↓wnx_n, ↓wnx_r, ↓blq, ↓v_kindS, ↓wb_join, ↓wb_app, ↓wb_pop, ↓wb_ext, ↓wo_lift, ↓x_name, ↓x_lb, ↓x_aug, ↓x_isi, ↓v_isI, ↓v_isB, ↓v_isS, ↓v_isT, ↓v_lenT, ↓v_int, ↓v_max2, ↓v_all, ↓v_any, ↓v_tupL, ↓v_disp0, ↓wk_ok, ↓wo_s, ↓wp_s, ↓wi_i, ↓v_slot0, ↓v_slotS, ↓ss_0, ↓ss_S, ↓sr_n, ↓sr_c, ↓sw_n, ↓sw_c, ↓v_opI, ↓v_add, ↓v_sub, ↓v_tr, ↓v_trO, ↓wf_t, ↓wf_f, ↓v_ix0, ↓v_ix1, ↓v_ix2, ↓v_ix3, ↓v_ix4, ↓v_ix5, ↓v_src, ↓v_perm, ↓wn_0, ↓wn_S, ↓wn_a0, ↓wn_aS, ↓wn_an, ↓dr_n, ↓dr_c, ↓wr_n, ↓wr_c, c_eqI, c_neI, c_ltI, c_gtI, c_leI, c_geI, d_ltI, d_gtI, d_leI, d_geI, c_isN, c_isntN, kindS, items_tup, true_and, and_true, ln_0, ln_1, ln_2, ln_3, ln_4, ln_5, ln_6, ln_7, ln_8, ln_9, ln_10, ln_11, ln_12, ln_13, ln_14, ln_15, ln_16, ln_17, ln_18, ln_19, ln_20, w_kinds aw.aw, src_lst (lst_get aw.ak)]
  refine w_pure encM W.kinds (fun md => some (.int ((max 1 md.wait : Nat) : Int))) (by simp only [maxLen]; omega) (fun h1 s1 => at_cell (by simp) (lst_get (s1.get0 aw.ak))) ?_ ?_
  · intro md h1 Q1 hm s1 q1
    simp -dsimp -failIfUnchanged only [↓wsq_n, ↓wsq_r, ↓wfin_n, ↓wfin_r, ↓ws_nil, ↓ws_cons, ↓ws_expr, ↓ws_set, ↓ws_ret, ↓ws_iff, ↓ws_pass, ↓ws_fb, ↓ws_for, ↓ws_while, ↓ws_wc, ↓ws_wb, ↓wt_tup, ↓wt_nil, ↓wt_cons, ↓wt_sub, ↓wt_fld, ↓we_slot, ↓we_lit, ↓we_op, ↓we_cmp, ↓we_chain, ↓we_nt, ↓we_neg, ↓we_an, ↓we_orr, ↓we_ite, ↓we_tup, ↓we_lst, ↓we_dct, ↓we_sub, ↓we_slc, ↓we_rev, ↓we_fld, ↓we_call, ↓wmk_n, ↓we_mk, ↓we_meth, ↓we_blt, ↓we_bm, ↓we_lc, ↓wes_nil, ↓wes_cons, ↓wes_star, ↓wts_nil, ↓wts_cons, ↓wo_none, ↓wo_some, ↓wi_e, ↓wi_r1, ↓wi_r2, ↓wi_enum, ↓wi_enumS, ↓wi_zip, ↓wnx_n, ↓wnx_r, ↓blq, ↓v_kindS, ↓wb_join, ↓wb_app, ↓wb_pop, ↓wb_ext, ↓wo_lift, ↓x_name, ↓x_lb, ↓x_aug, ↓x_isi, ↓v_isI, ↓v_isB, ↓v_isS, ↓v_isT, ↓v_lenT, ↓v_int, ↓v_max2, ↓v_all, ↓v_any, ↓v_tupL, ↓v_disp0, ↓wk_ok, ↓wo_s, ↓wp_s, ↓wi_i, ↓v_slot0, ↓v_slotS, ↓ss_0, ↓ss_S, ↓sr_n, ↓sr_c, ↓sw_n, ↓sw_c, ↓v_opI, ↓v_add, ↓v_sub, ↓v_tr, ↓v_trO, ↓wf_t, ↓wf_f, ↓v_ix0, ↓v_ix1, ↓v_ix2, ↓v_ix3, ↓v_ix4, ↓v_ix5, ↓v_src, ↓v_perm, ↓wn_0, ↓wn_S, ↓wn_a0, ↓wn_aS, ↓wn_an, ↓dr_n, ↓dr_c, ↓wr_n, ↓wr_c, c_eqI, c_neI, c_ltI, c_gtI, c_leI, c_geI, d_ltI, d_gtI, d_leI, d_geI, c_isN, c_isntN, kindS, items_tup, true_and, and_true, ln_0, ln_1, ln_2, ln_3, ln_4, ln_5, ln_6, ln_7, ln_8, ln_9, ln_10, ln_11, ln_12, ln_13, ln_14, ln_15, ln_16, ln_17, ln_18, ln_19, ln_20, encM]
    have : (if (md.wait : Int) > 1 then (md.wait : Int) else 1) = ((max 1 md.wait : Nat) : Int) := by split <;> omega
    rw [this]
    exact q1 _ Same.refl
  · intro h1 s1
    rw [filterMap_some]
    have sm : btD .sum [.ref h1.length] (h1 ++ [.lst (W.kinds.map fun md => D.int ((max 1 md.wait : Nat) : Int))]) = some (.int (sumW W.kinds : Nat), h1 ++ [.lst (W.kinds.map fun md => D.int ((max 1 md.wait : Nat) : Int))]) := by
      have := sum_cast (W.kinds.map fun md => max 1 md.wait)
      rw [List.map_map] at this
      simp only [btD, lst_new, Option.bind_some, ints_map, Option.map_some, sumW]
      rw [← this]
      rfl
    have s2 := s1.new (c := .lst (W.kinds.map fun md => D.int ((max 1 md.wait : Nat) : Int)))
    simp -dsimp -failIfUnchanged only [↓wsq_n, ↓wsq_r, ↓wfin_n, ↓wfin_r, ↓ws_nil, ↓ws_cons, ↓ws_expr, ↓ws_set, ↓ws_ret, ↓ws_iff, ↓ws_pass, ↓ws_fb, ↓ws_for, ↓ws_while, ↓ws_wc, ↓ws_wb, ↓wt_tup, ↓wt_nil, ↓wt_cons, ↓wt_sub, ↓wt_fld, ↓we_slot, ↓we_lit, ↓we_op, ↓we_cmp, ↓we_chain, ↓we_nt, ↓we_neg, ↓we_an, ↓we_orr, ↓we_ite, ↓we_tup, ↓we_lst, ↓we_dct, ↓we_sub, ↓we_slc, ↓we_rev, ↓we_fld, ↓we_call, ↓wmk_n, ↓we_mk, ↓we_meth, ↓we_blt, ↓we_bm, ↓we_lc, ↓wes_nil, ↓wes_cons, ↓wes_star, ↓wts_nil, ↓wts_cons, ↓wo_none, ↓wo_some, ↓wi_e, ↓wi_r1, ↓wi_r2, ↓wi_enum, ↓wi_enumS, ↓wi_zip, ↓wnx_n, ↓wnx_r, ↓blq, ↓v_kindS, ↓wb_join, ↓wb_app, ↓wb_pop, ↓wb_ext, ↓wo_lift, ↓x_name, ↓x_lb, ↓x_aug, ↓x_isi, ↓v_isI, ↓v_isB, ↓v_isS, ↓v_isT, ↓v_lenT, ↓v_int, ↓v_max2, ↓v_all, ↓v_any, ↓v_tupL, ↓v_disp0, ↓wk_ok, ↓wo_s, ↓wp_s, ↓wi_i, ↓v_slot0, ↓v_slotS, ↓ss_0, ↓ss_S, ↓sr_n, ↓sr_c, ↓sw_n, ↓sw_c, ↓v_opI, ↓v_add, ↓v_sub, ↓v_tr, ↓v_trO, ↓wf_t, ↓wf_f, ↓v_ix0, ↓v_ix1, ↓v_ix2, ↓v_ix3, ↓v_ix4, ↓v_ix5, ↓v_src, ↓v_perm, ↓wn_0, ↓wn_S, ↓wn_a0, ↓wn_aS, ↓wn_an, ↓dr_n, ↓dr_c, ↓wr_n, ↓wr_c, c_eqI, c_neI, c_ltI, c_gtI, c_leI, c_geI, d_ltI, d_gtI, d_leI, d_geI, c_isN, c_isntN, kindS, items_tup, true_and, and_true, ln_0, ln_1, ln_2, ln_3, ln_4, ln_5, ln_6, ln_7, ln_8, ln_9, ln_10, ln_11, ln_12, ln_13, ln_14, ln_15, ln_16, ln_17, ln_18, ln_19, ln_20, sm]
    generalize h1 ++ [.lst (W.kinds.map fun md => D.int ((max 1 md.wait : Nat) : Int))] = h2 at s2 ⊢
    have aw2 := aw.same s2 (by simp)
    have cst : ((sumW W.kinds : Nat) : Int) + 1 = ((sumW W.kinds + 1 : Nat) : Int) := by omega
    rw [cst]
    refine ⟨by simp [okRange]; omega, ?_⟩
    refine w_for natD (List.range (sumW W.kinds + 1)) (fun a1 r σ h' => h' = h2 ∧ ∃ s4 s5, σ = [some (.ref w), some (.int ((itn (goF W.kinds W.laws) a1.length (m, a)).1 : Nat)), some (.int ((itn (goF W.kinds W.laws) a1.length (m, a)).2 : Nat)), some (.int (sumW W.kinds : Nat)), s4, s5] ∧ ∀ j, j < a1.length → armS W.kinds (itn (goF W.kinds W.laws) j (m, a)) = false) (fun a r σ h1 e z => at_range) ?_ ?_ ⟨rfl, _, _, rfl, by simp⟩
    · rintro a1 x r σ h' e ⟨rfl, s4, s5, rfl, na⟩
      have ex : x = a1.length := by
        have : (List.range (sumW W.kinds + 1))[a1.length]? = some x := by rw [e, List.getElem?_append_right (Nat.le_refl _), Nat.sub_self]; rfl
        rw [List.getElem?_eq_some_iff] at this
        obtain ⟨_, h⟩ := this
        simpa using h.symm
      subst ex
      have vn := valid_itn v vs a1.length
      generalize hc : itn (fun s => goesP W.kinds W.laws s.1 s.2 []) a1.length (m, a) = c at vn
      have hc' : itn (goF W.kinds W.laws) a1.length (m, a) = c := hc
      obtain ⟨cm, ca⟩ := c
      obtain ⟨md, emd, lmd⟩ := vn
      simp only at emd lmd
      have sub1 : subD h' (.ref lk) (.int (cm : Nat)) = some (encM md) := by rw [sub_lst (lst_get aw2.ak), List.getElem?_map, emd]; rfl
      simp -dsimp -failIfUnchanged only [↓wsq_n, ↓wsq_r, ↓wfin_n, ↓wfin_r, ↓ws_nil, ↓ws_cons, ↓ws_expr, ↓ws_set, ↓ws_ret, ↓ws_iff, ↓ws_pass, ↓ws_fb, ↓ws_for, ↓ws_while, ↓ws_wc, ↓ws_wb, ↓wt_tup, ↓wt_nil, ↓wt_cons, ↓wt_sub, ↓wt_fld, ↓we_slot, ↓we_lit, ↓we_op, ↓we_cmp, ↓we_chain, ↓we_nt, ↓we_neg, ↓we_an, ↓we_orr, ↓we_ite, ↓we_tup, ↓we_lst, ↓we_dct, ↓we_sub, ↓we_slc, ↓we_rev, ↓we_fld, ↓we_call, ↓wmk_n, ↓we_mk, ↓we_meth, ↓we_blt, ↓we_bm, ↓we_lc, ↓wes_nil, ↓wes_cons, ↓wes_star, ↓wts_nil, ↓wts_cons, ↓wo_none, ↓wo_some, ↓wi_e, ↓wi_r1, ↓wi_r2, ↓wi_enum, ↓wi_enumS, ↓wi_zip, ↓wnx_n, ↓wnx_r, ↓blq, ↓v_kindS, ↓wb_join, ↓wb_app, ↓wb_pop, ↓wb_ext, ↓wo_lift, ↓x_name, ↓x_lb, ↓x_aug, ↓x_isi, ↓v_isI, ↓v_isB, ↓v_isS, ↓v_isT, ↓v_lenT, ↓v_int, ↓v_max2, ↓v_all, ↓v_any, ↓v_tupL, ↓v_disp0, ↓wk_ok, ↓wo_s, ↓wp_s, ↓wi_i, ↓v_slot0, ↓v_slotS, ↓ss_0, ↓ss_S, ↓sr_n, ↓sr_c, ↓sw_n, ↓sw_c, ↓v_opI, ↓v_add, ↓v_sub, ↓v_tr, ↓v_trO, ↓wf_t, ↓wf_f, ↓v_ix0, ↓v_ix1, ↓v_ix2, ↓v_ix3, ↓v_ix4, ↓v_ix5, ↓v_src, ↓v_perm, ↓wn_0, ↓wn_S, ↓wn_a0, ↓wn_aS, ↓wn_an, ↓dr_n, ↓dr_c, ↓wr_n, ↓wr_c, c_eqI, c_neI, c_ltI, c_gtI, c_leI, c_geI, d_ltI, d_gtI, d_leI, d_geI, c_isN, c_isntN, kindS, items_tup, true_and, and_true, ln_0, ln_1, ln_2, ln_3, ln_4, ln_5, ln_6, ln_7, ln_8, ln_9, ln_10, ln_11, ln_12, ln_13, ln_14, ln_15, ln_16, ln_17, ln_18, ln_19, ln_20, w_kinds aw2.aw, sub1, encM]
      refine wf_i (fun ea => ?_) (fun ea => ?_)
      · simp -dsimp -failIfUnchanged only [↓wsq_n, ↓wsq_r, ↓wfin_n, ↓wfin_r, ↓ws_nil, ↓ws_cons, ↓ws_expr, ↓ws_set, ↓ws_ret, ↓ws_iff, ↓ws_pass, ↓ws_fb, ↓ws_for, ↓ws_while, ↓ws_wc, ↓ws_wb, ↓wt_tup, ↓wt_nil, ↓wt_cons, ↓wt_sub, ↓wt_fld, ↓we_slot, ↓we_lit, ↓we_op, ↓we_cmp, ↓we_chain, ↓we_nt, ↓we_neg, ↓we_an, ↓we_orr, ↓we_ite, ↓we_tup, ↓we_lst, ↓we_dct, ↓we_sub, ↓we_slc, ↓we_rev, ↓we_fld, ↓we_call, ↓wmk_n, ↓we_mk, ↓we_meth, ↓we_blt, ↓we_bm, ↓we_lc, ↓wes_nil, ↓wes_cons, ↓wes_star, ↓wts_nil, ↓wts_cons, ↓wo_none, ↓wo_some, ↓wi_e, ↓wi_r1, ↓wi_r2, ↓wi_enum, ↓wi_enumS, ↓wi_zip, ↓wnx_n, ↓wnx_r, ↓blq, ↓v_kindS, ↓wb_join, ↓wb_app, ↓wb_pop, ↓wb_ext, ↓wo_lift, ↓x_name, ↓x_lb, ↓x_aug, ↓x_isi, ↓v_isI, ↓v_isB, ↓v_isS, ↓v_isT, ↓v_lenT, ↓v_int, ↓v_max2, ↓v_all, ↓v_any, ↓v_tupL, ↓v_disp0, ↓wk_ok, ↓wo_s, ↓wp_s, ↓wi_i, ↓v_slot0, ↓v_slotS, ↓ss_0, ↓ss_S, ↓sr_n, ↓sr_c, ↓sw_n, ↓sw_c, ↓v_opI, ↓v_add, ↓v_sub, ↓v_tr, ↓v_trO, ↓wf_t, ↓wf_f, ↓v_ix0, ↓v_ix1, ↓v_ix2, ↓v_ix3, ↓v_ix4, ↓v_ix5, ↓v_src, ↓v_perm, ↓wn_0, ↓wn_S, ↓wn_a0, ↓wn_aS, ↓wn_an, ↓dr_n, ↓dr_c, ↓wr_n, ↓wr_c, c_eqI, c_neI, c_ltI, c_gtI, c_leI, c_geI, d_ltI, d_gtI, d_leI, d_geI, c_isN, c_isntN, kindS, items_tup, true_and, and_true, ln_0, ln_1, ln_2, ln_3, ln_4, ln_5, ln_6, ln_7, ln_8, ln_9, ln_10, ln_11, ln_12, ln_13, ln_14, ln_15, ln_16, ln_17, ln_18, ln_19, ln_20, nm_r]
        refine q h' (some a1.length) s2 ⟨?_, na⟩
        rw [hc']; simp only [armS, emd, ea]
      · simp -dsimp -failIfUnchanged only [↓wsq_n, ↓wsq_r, ↓wfin_n, ↓wfin_r, ↓ws_nil, ↓ws_cons, ↓ws_expr, ↓ws_set, ↓ws_ret, ↓ws_iff, ↓ws_pass, ↓ws_fb, ↓ws_for, ↓ws_while, ↓ws_wc, ↓ws_wb, ↓wt_tup, ↓wt_nil, ↓wt_cons, ↓wt_sub, ↓wt_fld, ↓we_slot, ↓we_lit, ↓we_op, ↓we_cmp, ↓we_chain, ↓we_nt, ↓we_neg, ↓we_an, ↓we_orr, ↓we_ite, ↓we_tup, ↓we_lst, ↓we_dct, ↓we_sub, ↓we_slc, ↓we_rev, ↓we_fld, ↓we_call, ↓wmk_n, ↓we_mk, ↓we_meth, ↓we_blt, ↓we_bm, ↓we_lc, ↓wes_nil, ↓wes_cons, ↓wes_star, ↓wts_nil, ↓wts_cons, ↓wo_none, ↓wo_some, ↓wi_e, ↓wi_r1, ↓wi_r2, ↓wi_enum, ↓wi_enumS, ↓wi_zip, ↓wnx_n, ↓wnx_r, ↓blq, ↓v_kindS, ↓wb_join, ↓wb_app, ↓wb_pop, ↓wb_ext, ↓wo_lift, ↓x_name, ↓x_lb, ↓x_aug, ↓x_isi, ↓v_isI, ↓v_isB, ↓v_isS, ↓v_isT, ↓v_lenT, ↓v_int, ↓v_max2, ↓v_all, ↓v_any, ↓v_tupL, ↓v_disp0, ↓wk_ok, ↓wo_s, ↓wp_s, ↓wi_i, ↓v_slot0, ↓v_slotS, ↓ss_0, ↓ss_S, ↓sr_n, ↓sr_c, ↓sw_n, ↓sw_c, ↓v_opI, ↓v_add, ↓v_sub, ↓v_tr, ↓v_trO, ↓wf_t, ↓wf_f, ↓v_ix0, ↓v_ix1, ↓v_ix2, ↓v_ix3, ↓v_ix4, ↓v_ix5, ↓v_src, ↓v_perm, ↓wn_0, ↓wn_S, ↓wn_a0, ↓wn_aS, ↓wn_an, ↓dr_n, ↓dr_c, ↓wr_n, ↓wr_c, c_eqI, c_neI, c_ltI, c_gtI, c_leI, c_geI, d_ltI, d_gtI, d_leI, d_geI, c_isN, c_isntN, kindS, items_tup, true_and, and_true, ln_0, ln_1, ln_2, ln_3, ln_4, ln_5, ln_6, ln_7, ln_8, ln_9, ln_10, ln_11, ln_12, ln_13, ln_14, ln_15, ln_16, ln_17, ln_18, ln_19, ln_20]
        refine Lgoes_ok aw2 ⟨md, emd, lmd⟩ ?_
        simp -dsimp -failIfUnchanged only [↓wsq_n, ↓wsq_r, ↓wfin_n, ↓wfin_r, ↓ws_nil, ↓ws_cons, ↓ws_expr, ↓ws_set, ↓ws_ret, ↓ws_iff, ↓ws_pass, ↓ws_fb, ↓ws_for, ↓ws_while, ↓ws_wc, ↓ws_wb, ↓wt_tup, ↓wt_nil, ↓wt_cons, ↓wt_sub, ↓wt_fld, ↓we_slot, ↓we_lit, ↓we_op, ↓we_cmp, ↓we_chain, ↓we_nt, ↓we_neg, ↓we_an, ↓we_orr, ↓we_ite, ↓we_tup, ↓we_lst, ↓we_dct, ↓we_sub, ↓we_slc, ↓we_rev, ↓we_fld, ↓we_call, ↓wmk_n, ↓we_mk, ↓we_meth, ↓we_blt, ↓we_bm, ↓we_lc, ↓wes_nil, ↓wes_cons, ↓wes_star, ↓wts_nil, ↓wts_cons, ↓wo_none, ↓wo_some, ↓wi_e, ↓wi_r1, ↓wi_r2, ↓wi_enum, ↓wi_enumS, ↓wi_zip, ↓wnx_n, ↓wnx_r, ↓blq, ↓v_kindS, ↓wb_join, ↓wb_app, ↓wb_pop, ↓wb_ext, ↓wo_lift, ↓x_name, ↓x_lb, ↓x_aug, ↓x_isi, ↓v_isI, ↓v_isB, ↓v_isS, ↓v_isT, ↓v_lenT, ↓v_int, ↓v_max2, ↓v_all, ↓v_any, ↓v_tupL, ↓v_disp0, ↓wk_ok, ↓wo_s, ↓wp_s, ↓wi_i, ↓v_slot0, ↓v_slotS, ↓ss_0, ↓ss_S, ↓sr_n, ↓sr_c, ↓sw_n, ↓sw_c, ↓v_opI, ↓v_add, ↓v_sub, ↓v_tr, ↓v_trO, ↓wf_t, ↓wf_f, ↓v_ix0, ↓v_ix1, ↓v_ix2, ↓v_ix3, ↓v_ix4, ↓v_ix5, ↓v_src, ↓v_perm, ↓wn_0, ↓wn_S, ↓wn_a0, ↓wn_aS, ↓wn_an, ↓dr_n, ↓dr_c, ↓wr_n, ↓wr_c, c_eqI, c_neI, c_ltI, c_gtI, c_leI, c_geI, d_ltI, d_gtI, d_leI, d_geI, c_isN, c_isntN, kindS, items_tup, true_and, and_true, ln_0, ln_1, ln_2, ln_3, ln_4, ln_5, ln_6, ln_7, ln_8, ln_9, ln_10, ln_11, ln_12, ln_13, ln_14, ln_15, ln_16, ln_17, ln_18, ln_19, ln_20, encA, nm_n, List.length_append, List.length_cons, List.length_nil]
        refine ⟨s4, some (natD a1.length), ?_, fun j hj => ?_⟩
        · simp only [itn, hc']
          rfl
        · by_cases e : j = a1.length
          · subst e; rw [hc']; simp only [armS, emd, ea]
          · exact na j (by omega)
    · rintro σ h' ⟨rfl, s4, s5, rfl, na⟩
      simp only [List.length_range] at na
      simp -dsimp -failIfUnchanged only [↓wsq_n, ↓wsq_r, ↓wfin_n, ↓wfin_r, ↓ws_nil, ↓ws_cons, ↓ws_expr, ↓ws_set, ↓ws_ret, ↓ws_iff, ↓ws_pass, ↓ws_fb, ↓ws_for, ↓ws_while, ↓ws_wc, ↓ws_wb, ↓wt_tup, ↓wt_nil, ↓wt_cons, ↓wt_sub, ↓wt_fld, ↓we_slot, ↓we_lit, ↓we_op, ↓we_cmp, ↓we_chain, ↓we_nt, ↓we_neg, ↓we_an, ↓we_orr, ↓we_ite, ↓we_tup, ↓we_lst, ↓we_dct, ↓we_sub, ↓we_slc, ↓we_rev, ↓we_fld, ↓we_call, ↓wmk_n, ↓we_mk, ↓we_meth, ↓we_blt, ↓we_bm, ↓we_lc, ↓wes_nil, ↓wes_cons, ↓wes_star, ↓wts_nil, ↓wts_cons, ↓wo_none, ↓wo_some, ↓wi_e, ↓wi_r1, ↓wi_r2, ↓wi_enum, ↓wi_enumS, ↓wi_zip, ↓wnx_n, ↓wnx_r, ↓blq, ↓v_kindS, ↓wb_join, ↓wb_app, ↓wb_pop, ↓wb_ext, ↓wo_lift, ↓x_name, ↓x_lb, ↓x_aug, ↓x_isi, ↓v_isI, ↓v_isB, ↓v_isS, ↓v_isT, ↓v_lenT, ↓v_int, ↓v_max2, ↓v_all, ↓v_any, ↓v_tupL, ↓v_disp0, ↓wk_ok, ↓wo_s, ↓wp_s, ↓wi_i, ↓v_slot0, ↓v_slotS, ↓ss_0, ↓ss_S, ↓sr_n, ↓sr_c, ↓sw_n, ↓sw_c, ↓v_opI, ↓v_add, ↓v_sub, ↓v_tr, ↓v_trO, ↓wf_t, ↓wf_f, ↓v_ix0, ↓v_ix1, ↓v_ix2, ↓v_ix3, ↓v_ix4, ↓v_ix5, ↓v_src, ↓v_perm, ↓wn_0, ↓wn_S, ↓wn_a0, ↓wn_aS, ↓wn_an, ↓dr_n, ↓dr_c, ↓wr_n, ↓wr_c, c_eqI, c_neI, c_ltI, c_gtI, c_leI, c_geI, d_ltI, d_gtI, d_leI, d_geI, c_isN, c_isntN, kindS, items_tup, true_and, and_true, ln_0, ln_1, ln_2, ln_3, ln_4, ln_5, ln_6, ln_7, ln_8, ln_9, ln_10, ln_11, ln_12, ln_13, ln_14, ln_15, ln_16, ln_17, ln_18, ln_19, ln_20]
      refine q h' none s2 ?_
      obtain ⟨i, n, l, ln, e⟩ := itn_again (f := goF W.kinds W.laws) (s := (m, a)) (r := allS W.kinds) (fun j => mem_allS.mpr (valid_itn v vs j))
      rw [len_allS] at ln
      exact till_loop l e fun j hj => na j (by omega)
end
end Lw
end
section
set_option autoImplicit false
set_option Elab.async false
set_option linter.all false
set_option maxRecDepth 8000
set_option maxHeartbeats 4000000
namespace Lw
open PySem Q Qw
theorem log2_le (n : Nat) : n.log2 ≤ n := by
  by_cases h : n = 0
  · subst h; decide
  · exact Nat.le_of_lt ((Nat.log2_lt h).mpr Nat.lt_two_pow_self)
theorem encA_shw {a b : Nat} (h1 : a < 1000) (h2 : b < 1000) : (encA (a, b)).shw = true ∧ (encA (a, b)).wt ≤ 3000 := by
  have l1 := log2_le a
  have l2 := log2_le b
  simp only [encA, D.shw, D.shws, D.wt, D.wts, Int.natAbs_natCast, Bool.and_true, Bool.and_eq_true, decide_eq_true_eq]
  omega
theorem encA_ok {p : Nat × Nat} {n : Nat} : okN (n + 1) (encA p) = true := by
  simp only [encA, ok_tup, oks_cons, ok_int, oks_nil, Bool.and_self]
theorem encO_shw {o : Option Nat} (h1 : ∀ n, o = some n → n < 1000) : (encO o).shw = true ∧ (encO o).wt ≤ 3000 := by
  cases o with
  | none => exact ⟨rfl, by simp [encO, D.wt]⟩
  | some n =>
    have l1 := log2_le n
    have := h1 n rfl
    simp only [encO, D.shw, D.wt, Int.natAbs_natCast, decide_eq_true_eq]
    omega
theorem encO_ok {o : Option Nat} {n : Nat} : okN n (encO o) = true := by cases o <;> first | exact ok_non | exact ok_int
section
variable {X : Ex} {k : Nat} {h : Hh} {Q : D → Hh → Prop} {i j : Nat} {w b ls lk ll : Nat} {W : Wd}
def signsL : List Str := ["", "A", "B", "C", "AB", "BC", "ABCDE", "E", "CE"]
theorem Lright_ok {top : Nat} (ok : OkW top W) (d : Deck h i j) (aw : AtW h w b W ls lk ll) (hb : i < b ∧ j < b)
    (q : ∀ h1, Deck h1 i j → Same h h1 [i, j] → Q (.bl true) h1) : Wk X Q (fnAt P (k + 8) F_Lright [.ref i, .ref w] h) := by
  rw [r_Lright]
  unfold T_Lright
  have v := VP.of ok
  have k1 := ok.k1
  have l1 := ok.l1
  have sl := sumW_le (c := 3) fun m hm => (ok.km m hm).1
  have hbb : ∀ x ∈ [i, j], x < b := by simp; omega
  simp -dsimp -failIfUnchanged only [↓wsq_n, ↓wsq_r, ↓wfin_n, ↓wfin_r, ↓ws_nil, ↓ws_cons, ↓ws_expr, ↓ws_set, ↓ws_ret, ↓ws_iff, ↓ws_pass, ↓ws_fb, ↓ws_for, ↓ws_while, ↓ws_wc, ↓ws_wb, ↓wt_tup, ↓wt_nil, ↓wt_cons, ↓wt_sub, ↓wt_fld, ↓we_slot, ↓we_lit, ↓we_op, ↓we_cmp, ↓we_chain, ↓we_nt, ↓we_neg, ↓we_an, ↓we_orr, ↓we_ite, ↓we_tup, ↓we_lst, ↓we_dct, ↓we_sub, ↓we_slc, ↓we_rev, ↓we_fld, ↓we_call, ↓wmk_n, ↓we_mk, ↓we_meth, ↓we_blt, ↓we_bm, ↓we_lc, ↓wes_nil, ↓wes_cons, ↓wes_star, ↓wts_nil, ↓wts_cons, ↓wo_none, ↓wo_some, ↓wi_e, ↓wi_r1, ↓wi_r2, ↓wi_enum, ↓wi_enumS, ↓wi_zip, ↓wnx_n, ↓wnx_r, ↓blq, ↓v_kindS, ↓wb_join, ↓wb_app, ↓wb_pop, ↓wb_ext, ↓wo_lift, ↓x_name, ↓x_lb, ↓x_aug, ↓x_isi, ↓v_isI, ↓v_isB, ↓v_isS, ↓v_isT, ↓v_lenT, ↓v_int, ↓v_max2, ↓v_all, ↓v_any, ↓v_tupL, ↓v_disp0, ↓wk_ok, ↓wo_s, ↓wp_s, ↓wi_i, ↓v_slot0, ↓v_slotS, ↓ss_0, ↓ss_S, ↓sr_n, ↓sr_c, ↓sw_n, ↓sw_c, ↓v_opI, ↓v_add, ↓v_sub, ↓v_tr, ↓v_trO, ↓wf_t, ↓wf_f, ↓v_ix0, ↓v_ix1, ↓v_ix2, ↓v_ix3, ↓v_ix4, ↓v_ix5, ↓v_src, ↓v_perm, ↓wn_0, ↓wn_S, ↓wn_a0, ↓wn_aS, ↓wn_an, ↓dr_n, ↓dr_c, ↓wr_n, ↓wr_c, c_eqI, c_neI, c_ltI, c_gtI, c_leI, c_geI, d_ltI, d_gtI, d_leI, d_geI, c_isN, c_isntN, kindS, items_tup, true_and, and_true, ln_0, ln_1, ln_2, ln_3, ln_4, ln_5, ln_6, ln_7, ln_8, ln_9, ln_10, ln_11, ln_12, ln_13, ln_14, ln_15, ln_16, ln_17, ln_18, ln_19, ln_20, w_kinds aw.aw, w_laws aw.aw, tup_lst (lst_get aw.ak), tup_lst (lst_get aw.al), ↓k_Panel]
  refine Panel_made v (by simp only [maxLen]; omega) (by simp only [maxLen]; omega) fun h1 pc s1 lpc gpc => ?_
  have aw1 := aw.same s1 (by simp)
  have d1 := d.same s1
  have npc : pc ∉ [i, j] := by
    have := lt_of_get aw.aw
    have := aw.bw
    simp; omega
  have kinds : W.kinds.length < 5 := by omega
  simp -dsimp -failIfUnchanged only [↓wsq_n, ↓wsq_r, ↓wfin_n, ↓wfin_r, ↓ws_nil, ↓ws_cons, ↓ws_expr, ↓ws_set, ↓ws_ret, ↓ws_iff, ↓ws_pass, ↓ws_fb, ↓ws_for, ↓ws_while, ↓ws_wc, ↓ws_wb, ↓wt_tup, ↓wt_nil, ↓wt_cons, ↓wt_sub, ↓wt_fld, ↓we_slot, ↓we_lit, ↓we_op, ↓we_cmp, ↓we_chain, ↓we_nt, ↓we_neg, ↓we_an, ↓we_orr, ↓we_ite, ↓we_tup, ↓we_lst, ↓we_dct, ↓we_sub, ↓we_slc, ↓we_rev, ↓we_fld, ↓we_call, ↓wmk_n, ↓we_mk, ↓we_meth, ↓we_blt, ↓we_bm, ↓we_lc, ↓wes_nil, ↓wes_cons, ↓wes_star, ↓wts_nil, ↓wts_cons, ↓wo_none, ↓wo_some, ↓wi_e, ↓wi_r1, ↓wi_r2, ↓wi_enum, ↓wi_enumS, ↓wi_zip, ↓wnx_n, ↓wnx_r, ↓blq, ↓v_kindS, ↓wb_join, ↓wb_app, ↓wb_pop, ↓wb_ext, ↓wo_lift, ↓x_name, ↓x_lb, ↓x_aug, ↓x_isi, ↓v_isI, ↓v_isB, ↓v_isS, ↓v_isT, ↓v_lenT, ↓v_int, ↓v_max2, ↓v_all, ↓v_any, ↓v_tupL, ↓v_disp0, ↓wk_ok, ↓wo_s, ↓wp_s, ↓wi_i, ↓v_slot0, ↓v_slotS, ↓ss_0, ↓ss_S, ↓sr_n, ↓sr_c, ↓sw_n, ↓sw_c, ↓v_opI, ↓v_add, ↓v_sub, ↓v_tr, ↓v_trO, ↓wf_t, ↓wf_f, ↓v_ix0, ↓v_ix1, ↓v_ix2, ↓v_ix3, ↓v_ix4, ↓v_ix5, ↓v_src, ↓v_perm, ↓wn_0, ↓wn_S, ↓wn_a0, ↓wn_aS, ↓wn_an, ↓dr_n, ↓dr_c, ↓wr_n, ↓wr_c, c_eqI, c_neI, c_ltI, c_gtI, c_leI, c_geI, d_ltI, d_gtI, d_leI, d_geI, c_isN, c_isntN, kindS, items_tup, true_and, and_true, ln_0, ln_1, ln_2, ln_3, ln_4, ln_5, ln_6, ln_7, ln_8, ln_9, ln_10, ln_11, ln_12, ln_13, ln_14, ln_15, ln_16, ln_17, ln_18, ln_19, ln_20, w_kinds aw1.aw, len_lst (lst_get aw1.ak), List.length_map]
  refine ⟨by simp [okRange]; omega, ?_⟩
  refine w_for natD (List.range W.kinds.length) (fun a r σ h' => Deck h' i j ∧ Same h1 h' [i, j] ∧ ∃ s3 s4 s5 s6 s7 s8 s9 s10 s11, σ = [some (.ref i), some (.ref w), some (.ref pc), s3, s4, s5, s6, s7, s8, s9, s10, s11]) (fun a r σ h1 e z => at_range) ?_ ?_ ⟨d1, Same.refl, _, _, _, _, _, _, _, _, _, rfl⟩
  · rintro a m r σ h2 ea ⟨d2, s2, s3, s4, s5, s6, s7, s8, s9, s10, s11, rfl⟩
    have hm : m < W.kinds.length := by
      have : m ∈ List.range W.kinds.length := by rw [ea]; simp
      exact List.mem_range.mp this
    have aw2 := aw1.same s2 hbb
    have gpc2 := s2.get gpc npc
    have wm := (ok.km W.kinds[m] (List.getElem_mem hm)).1
    have sub2 : ∀ h', AtW h' w b W ls lk ll → subD h' (.ref lk) (.int (m : Nat)) = some (encM W.kinds[m]) := fun h' aw => by rw [sub_lst (lst_get aw.ak), List.getElem?_map, List.getElem?_eq_getElem hm]; rfl
    simp -dsimp -failIfUnchanged only [↓wsq_n, ↓wsq_r, ↓wfin_n, ↓wfin_r, ↓ws_nil, ↓ws_cons, ↓ws_expr, ↓ws_set, ↓ws_ret, ↓ws_iff, ↓ws_pass, ↓ws_fb, ↓ws_for, ↓ws_while, ↓ws_wc, ↓ws_wb, ↓wt_tup, ↓wt_nil, ↓wt_cons, ↓wt_sub, ↓wt_fld, ↓we_slot, ↓we_lit, ↓we_op, ↓we_cmp, ↓we_chain, ↓we_nt, ↓we_neg, ↓we_an, ↓we_orr, ↓we_ite, ↓we_tup, ↓we_lst, ↓we_dct, ↓we_sub, ↓we_slc, ↓we_rev, ↓we_fld, ↓we_call, ↓wmk_n, ↓we_mk, ↓we_meth, ↓we_blt, ↓we_bm, ↓we_lc, ↓wes_nil, ↓wes_cons, ↓wes_star, ↓wts_nil, ↓wts_cons, ↓wo_none, ↓wo_some, ↓wi_e, ↓wi_r1, ↓wi_r2, ↓wi_enum, ↓wi_enumS, ↓wi_zip, ↓wnx_n, ↓wnx_r, ↓blq, ↓v_kindS, ↓wb_join, ↓wb_app, ↓wb_pop, ↓wb_ext, ↓wo_lift, ↓x_name, ↓x_lb, ↓x_aug, ↓x_isi, ↓v_isI, ↓v_isB, ↓v_isS, ↓v_isT, ↓v_lenT, ↓v_int, ↓v_max2, ↓v_all, ↓v_any, ↓v_tupL, ↓v_disp0, ↓wk_ok, ↓wo_s, ↓wp_s, ↓wi_i, ↓v_slot0, ↓v_slotS, ↓ss_0, ↓ss_S, ↓sr_n, ↓sr_c, ↓sw_n, ↓sw_c, ↓v_opI, ↓v_add, ↓v_sub, ↓v_tr, ↓v_trO, ↓wf_t, ↓wf_f, ↓v_ix0, ↓v_ix1, ↓v_ix2, ↓v_ix3, ↓v_ix4, ↓v_ix5, ↓v_src, ↓v_perm, ↓wn_0, ↓wn_S, ↓wn_a0, ↓wn_aS, ↓wn_an, ↓dr_n, ↓dr_c, ↓wr_n, ↓wr_c, c_eqI, c_neI, c_ltI, c_gtI, c_leI, c_geI, d_ltI, d_gtI, d_leI, d_geI, c_isN, c_isntN, kindS, items_tup, true_and, and_true, ln_0, ln_1, ln_2, ln_3, ln_4, ln_5, ln_6, ln_7, ln_8, ln_9, ln_10, ln_11, ln_12, ln_13, ln_14, ln_15, ln_16, ln_17, ln_18, ln_19, ln_20, w_kinds aw2.aw, sub2 h2 aw2, encM]
    have mx : (if (W.kinds[m].wait : Int) > 1 then (W.kinds[m].wait : Int) else 1) = ((max 1 W.kinds[m].wait : Nat) : Int) := by split <;> omega
    rw [mx]
    refine ⟨by simp [okRange]; omega, ?_⟩
    refine w_for natD (List.range (max 1 W.kinds[m].wait)) (fun a r σ h' => Same h2 h' [] ∧ ∃ s4 s5 s6 s7 s8 s9 s10 s11, σ = [some (.ref i), some (.ref w), some (.ref pc), some (natD m), s4, s5, s6, s7, s8, s9, s10, s11]) (fun a r σ h1 e z => at_range) ?_ ?_ ⟨Same.refl, _, _, _, _, _, _, _, _, rfl⟩
    · rintro a2 ag r2 σ h3 ea2 ⟨s23, s4, s5, s6, s7, s8, s9, s10, s11, rfl⟩
      have hag : ag < max 1 W.kinds[m].wait := by
        have : ag ∈ List.range (max 1 W.kinds[m].wait) := by rw [ea2]; simp
        exact List.mem_range.mp this
      have vs : ValidS W.kinds (m, ag) := ⟨W.kinds[m], List.getElem?_eq_getElem hm, hag⟩
      simp -dsimp -failIfUnchanged only [↓wsq_n, ↓wsq_r, ↓wfin_n, ↓wfin_r, ↓ws_nil, ↓ws_cons, ↓ws_expr, ↓ws_set, ↓ws_ret, ↓ws_iff, ↓ws_pass, ↓ws_fb, ↓ws_for, ↓ws_while, ↓ws_wc, ↓ws_wb, ↓wt_tup, ↓wt_nil, ↓wt_cons, ↓wt_sub, ↓wt_fld, ↓we_slot, ↓we_lit, ↓we_op, ↓we_cmp, ↓we_chain, ↓we_nt, ↓we_neg, ↓we_an, ↓we_orr, ↓we_ite, ↓we_tup, ↓we_lst, ↓we_dct, ↓we_sub, ↓we_slc, ↓we_rev, ↓we_fld, ↓we_call, ↓wmk_n, ↓we_mk, ↓we_meth, ↓we_blt, ↓we_bm, ↓we_lc, ↓wes_nil, ↓wes_cons, ↓wes_star, ↓wts_nil, ↓wts_cons, ↓wo_none, ↓wo_some, ↓wi_e, ↓wi_r1, ↓wi_r2, ↓wi_enum, ↓wi_enumS, ↓wi_zip, ↓wnx_n, ↓wnx_r, ↓blq, ↓v_kindS, ↓wb_join, ↓wb_app, ↓wb_pop, ↓wb_ext, ↓wo_lift, ↓x_name, ↓x_lb, ↓x_aug, ↓x_isi, ↓v_isI, ↓v_isB, ↓v_isS, ↓v_isT, ↓v_lenT, ↓v_int, ↓v_max2, ↓v_all, ↓v_any, ↓v_tupL, ↓v_disp0, ↓wk_ok, ↓wo_s, ↓wp_s, ↓wi_i, ↓v_slot0, ↓v_slotS, ↓ss_0, ↓ss_S, ↓sr_n, ↓sr_c, ↓sw_n, ↓sw_c, ↓v_opI, ↓v_add, ↓v_sub, ↓v_tr, ↓v_trO, ↓wf_t, ↓wf_f, ↓v_ix0, ↓v_ix1, ↓v_ix2, ↓v_ix3, ↓v_ix4, ↓v_ix5, ↓v_src, ↓v_perm, ↓wn_0, ↓wn_S, ↓wn_a0, ↓wn_aS, ↓wn_an, ↓dr_n, ↓dr_c, ↓wr_n, ↓wr_c, c_eqI, c_neI, c_ltI, c_gtI, c_leI, c_geI, d_ltI, d_gtI, d_leI, d_geI, c_isN, c_isntN, kindS, items_tup, true_and, and_true, ln_0, ln_1, ln_2, ln_3, ln_4, ln_5, ln_6, ln_7, ln_8, ln_9, ln_10, ln_11, ln_12, ln_13, ln_14, ln_15, ln_16, ln_17, ln_18, ln_19, ln_20]
      refine w_for D.str signsL (fun a r σ h' => Same h2 h' [] ∧ ∃ s7 s8, σ = [some (.ref i), some (.ref w), some (.ref pc), some (natD m), some (natD ag), s5, s6, s7, s8, s9, s10, s11]) (fun a r σ h1 e z => at_imm (g := D.str) (ys := signsL)) ?_ ?_ ⟨s23, _, _, rfl⟩
      · rintro a3 y r3 σ h4 ea3 ⟨s24, t7, t8, rfl⟩
        have aw4 := aw2.same s24 (by simp)
        have gpc4 := s24.get0 gpc2
        have vg := valid_goes v vs y.cps.toList
        generalize hg : goesP W.kinds W.laws m ag y.cps.toList = g at vg
        obtain ⟨gm, ga⟩ := g
        obtain ⟨gmd, egm, lga⟩ := vg
        simp only at egm lga
        have gw := (ok.km gmd (List.mem_of_getElem? egm)).1
        have gl := (List.getElem?_eq_some_iff.mp egm).1
        have sw := encA_shw (a := gm) (b := ga) (by omega) (by omega)
        simp -dsimp -failIfUnchanged only [↓wsq_n, ↓wsq_r, ↓wfin_n, ↓wfin_r, ↓ws_nil, ↓ws_cons, ↓ws_expr, ↓ws_set, ↓ws_ret, ↓ws_iff, ↓ws_pass, ↓ws_fb, ↓ws_for, ↓ws_while, ↓ws_wc, ↓ws_wb, ↓wt_tup, ↓wt_nil, ↓wt_cons, ↓wt_sub, ↓wt_fld, ↓we_slot, ↓we_lit, ↓we_op, ↓we_cmp, ↓we_chain, ↓we_nt, ↓we_neg, ↓we_an, ↓we_orr, ↓we_ite, ↓we_tup, ↓we_lst, ↓we_dct, ↓we_sub, ↓we_slc, ↓we_rev, ↓we_fld, ↓we_call, ↓wmk_n, ↓we_mk, ↓we_meth, ↓we_blt, ↓we_bm, ↓we_lc, ↓wes_nil, ↓wes_cons, ↓wes_star, ↓wts_nil, ↓wts_cons, ↓wo_none, ↓wo_some, ↓wi_e, ↓wi_r1, ↓wi_r2, ↓wi_enum, ↓wi_enumS, ↓wi_zip, ↓wnx_n, ↓wnx_r, ↓blq, ↓v_kindS, ↓wb_join, ↓wb_app, ↓wb_pop, ↓wb_ext, ↓wo_lift, ↓x_name, ↓x_lb, ↓x_aug, ↓x_isi, ↓v_isI, ↓v_isB, ↓v_isS, ↓v_isT, ↓v_lenT, ↓v_int, ↓v_max2, ↓v_all, ↓v_any, ↓v_tupL, ↓v_disp0, ↓wk_ok, ↓wo_s, ↓wp_s, ↓wi_i, ↓v_slot0, ↓v_slotS, ↓ss_0, ↓ss_S, ↓sr_n, ↓sr_c, ↓sw_n, ↓sw_c, ↓v_opI, ↓v_add, ↓v_sub, ↓v_tr, ↓v_trO, ↓wf_t, ↓wf_f, ↓v_ix0, ↓v_ix1, ↓v_ix2, ↓v_ix3, ↓v_ix4, ↓v_ix5, ↓v_src, ↓v_perm, ↓wn_0, ↓wn_S, ↓wn_a0, ↓wn_aS, ↓wn_an, ↓dr_n, ↓dr_c, ↓wr_n, ↓wr_c, c_eqI, c_neI, c_ltI, c_gtI, c_leI, c_geI, d_ltI, d_gtI, d_leI, d_geI, c_isN, c_isntN, kindS, items_tup, true_and, and_true, ln_0, ln_1, ln_2, ln_3, ln_4, ln_5, ln_6, ln_7, ln_8, ln_9, ln_10, ln_11, ln_12, ln_13, ln_14, ln_15, ln_16, ln_17, ln_18, ln_19, ln_20]
        refine Lgoes_ok aw4 vs ?_
        rw [hg]
        simp -dsimp -failIfUnchanged only [↓wsq_n, ↓wsq_r, ↓wfin_n, ↓wfin_r, ↓ws_nil, ↓ws_cons, ↓ws_expr, ↓ws_set, ↓ws_ret, ↓ws_iff, ↓ws_pass, ↓ws_fb, ↓ws_for, ↓ws_while, ↓ws_wc, ↓ws_wb, ↓wt_tup, ↓wt_nil, ↓wt_cons, ↓wt_sub, ↓wt_fld, ↓we_slot, ↓we_lit, ↓we_op, ↓we_cmp, ↓we_chain, ↓we_nt, ↓we_neg, ↓we_an, ↓we_orr, ↓we_ite, ↓we_tup, ↓we_lst, ↓we_dct, ↓we_sub, ↓we_slc, ↓we_rev, ↓we_fld, ↓we_call, ↓wmk_n, ↓we_mk, ↓we_meth, ↓we_blt, ↓we_bm, ↓we_lc, ↓wes_nil, ↓wes_cons, ↓wes_star, ↓wts_nil, ↓wts_cons, ↓wo_none, ↓wo_some, ↓wi_e, ↓wi_r1, ↓wi_r2, ↓wi_enum, ↓wi_enumS, ↓wi_zip, ↓wnx_n, ↓wnx_r, ↓blq, ↓v_kindS, ↓wb_join, ↓wb_app, ↓wb_pop, ↓wb_ext, ↓wo_lift, ↓x_name, ↓x_lb, ↓x_aug, ↓x_isi, ↓v_isI, ↓v_isB, ↓v_isS, ↓v_isT, ↓v_lenT, ↓v_int, ↓v_max2, ↓v_all, ↓v_any, ↓v_tupL, ↓v_disp0, ↓wk_ok, ↓wo_s, ↓wp_s, ↓wi_i, ↓v_slot0, ↓v_slotS, ↓ss_0, ↓ss_S, ↓sr_n, ↓sr_c, ↓sw_n, ↓sw_c, ↓v_opI, ↓v_add, ↓v_sub, ↓v_tr, ↓v_trO, ↓wf_t, ↓wf_f, ↓v_ix0, ↓v_ix1, ↓v_ix2, ↓v_ix3, ↓v_ix4, ↓v_ix5, ↓v_src, ↓v_perm, ↓wn_0, ↓wn_S, ↓wn_a0, ↓wn_aS, ↓wn_an, ↓dr_n, ↓dr_c, ↓wr_n, ↓wr_c, c_eqI, c_neI, c_ltI, c_gtI, c_leI, c_geI, d_ltI, d_gtI, d_leI, d_geI, c_isN, c_isntN, kindS, items_tup, true_and, and_true, ln_0, ln_1, ln_2, ln_3, ln_4, ln_5, ln_6, ln_7, ln_8, ln_9, ln_10, ln_11, ln_12, ln_13, ln_14, ln_15, ln_16, ln_17, ln_18, ln_19, ln_20, m_Panel_goes gpc4]
        refine goes_ok gpc4 hm ?_
        rw [hg]
        simp -dsimp -failIfUnchanged only [↓wsq_n, ↓wsq_r, ↓wfin_n, ↓wfin_r, ↓ws_nil, ↓ws_cons, ↓ws_expr, ↓ws_set, ↓ws_ret, ↓ws_iff, ↓ws_pass, ↓ws_fb, ↓ws_for, ↓ws_while, ↓ws_wc, ↓ws_wb, ↓wt_tup, ↓wt_nil, ↓wt_cons, ↓wt_sub, ↓wt_fld, ↓we_slot, ↓we_lit, ↓we_op, ↓we_cmp, ↓we_chain, ↓we_nt, ↓we_neg, ↓we_an, ↓we_orr, ↓we_ite, ↓we_tup, ↓we_lst, ↓we_dct, ↓we_sub, ↓we_slc, ↓we_rev, ↓we_fld, ↓we_call, ↓wmk_n, ↓we_mk, ↓we_meth, ↓we_blt, ↓we_bm, ↓we_lc, ↓wes_nil, ↓wes_cons, ↓wes_star, ↓wts_nil, ↓wts_cons, ↓wo_none, ↓wo_some, ↓wi_e, ↓wi_r1, ↓wi_r2, ↓wi_enum, ↓wi_enumS, ↓wi_zip, ↓wnx_n, ↓wnx_r, ↓blq, ↓v_kindS, ↓wb_join, ↓wb_app, ↓wb_pop, ↓wb_ext, ↓wo_lift, ↓x_name, ↓x_lb, ↓x_aug, ↓x_isi, ↓v_isI, ↓v_isB, ↓v_isS, ↓v_isT, ↓v_lenT, ↓v_int, ↓v_max2, ↓v_all, ↓v_any, ↓v_tupL, ↓v_disp0, ↓wk_ok, ↓wo_s, ↓wp_s, ↓wi_i, ↓v_slot0, ↓v_slotS, ↓ss_0, ↓ss_S, ↓sr_n, ↓sr_c, ↓sw_n, ↓sw_c, ↓v_opI, ↓v_add, ↓v_sub, ↓v_tr, ↓v_trO, ↓wf_t, ↓wf_f, ↓v_ix0, ↓v_ix1, ↓v_ix2, ↓v_ix3, ↓v_ix4, ↓v_ix5, ↓v_src, ↓v_perm, ↓wn_0, ↓wn_S, ↓wn_a0, ↓wn_aS, ↓wn_an, ↓dr_n, ↓dr_c, ↓wr_n, ↓wr_c, c_eqI, c_neI, c_ltI, c_gtI, c_leI, c_geI, d_ltI, d_gtI, d_leI, d_geI, c_isN, c_isntN, kindS, items_tup, true_and, and_true, ln_0, ln_1, ln_2, ln_3, ln_4, ln_5, ln_6, ln_7, ln_8, ln_9, ln_10, ln_11, ln_12, ln_13, ln_14, ln_15, ln_16, ln_17, ln_18, ln_19, ln_20, m_Panel_goes gpc4]
        refine goes_ok gpc4 hm ?_
        rw [hg]
        have rp : ∀ h5 i5, h5[i5]? = some (.lst [encA (gm, ga), encA (gm, ga)]) → btD .repr [.ref i5] h5 = some (.str (reprL [encA (gm, ga), encA (gm, ga)]), h5) := fun h5 i5 g5 =>
          repr_cell (lst_get g5) (by simp only [oks_cons, encA_ok, oks_nil, Bool.and_self]) (by simp only [D.shws, sw.1, Bool.and_self]) (by have := sw.2; simp only [D.wts]; omega)
        simp -dsimp -failIfUnchanged only [↓wsq_n, ↓wsq_r, ↓wfin_n, ↓wfin_r, ↓ws_nil, ↓ws_cons, ↓ws_expr, ↓ws_set, ↓ws_ret, ↓ws_iff, ↓ws_pass, ↓ws_fb, ↓ws_for, ↓ws_while, ↓ws_wc, ↓ws_wb, ↓wt_tup, ↓wt_nil, ↓wt_cons, ↓wt_sub, ↓wt_fld, ↓we_slot, ↓we_lit, ↓we_op, ↓we_cmp, ↓we_chain, ↓we_nt, ↓we_neg, ↓we_an, ↓we_orr, ↓we_ite, ↓we_tup, ↓we_lst, ↓we_dct, ↓we_sub, ↓we_slc, ↓we_rev, ↓we_fld, ↓we_call, ↓wmk_n, ↓we_mk, ↓we_meth, ↓we_blt, ↓we_bm, ↓we_lc, ↓wes_nil, ↓wes_cons, ↓wes_star, ↓wts_nil, ↓wts_cons, ↓wo_none, ↓wo_some, ↓wi_e, ↓wi_r1, ↓wi_r2, ↓wi_enum, ↓wi_enumS, ↓wi_zip, ↓wnx_n, ↓wnx_r, ↓blq, ↓v_kindS, ↓wb_join, ↓wb_app, ↓wb_pop, ↓wb_ext, ↓wo_lift, ↓x_name, ↓x_lb, ↓x_aug, ↓x_isi, ↓v_isI, ↓v_isB, ↓v_isS, ↓v_isT, ↓v_lenT, ↓v_int, ↓v_max2, ↓v_all, ↓v_any, ↓v_tupL, ↓v_disp0, ↓wk_ok, ↓wo_s, ↓wp_s, ↓wi_i, ↓v_slot0, ↓v_slotS, ↓ss_0, ↓ss_S, ↓sr_n, ↓sr_c, ↓sw_n, ↓sw_c, ↓v_opI, ↓v_add, ↓v_sub, ↓v_tr, ↓v_trO, ↓wf_t, ↓wf_f, ↓v_ix0, ↓v_ix1, ↓v_ix2, ↓v_ix3, ↓v_ix4, ↓v_ix5, ↓v_src, ↓v_perm, ↓wn_0, ↓wn_S, ↓wn_a0, ↓wn_aS, ↓wn_an, ↓dr_n, ↓dr_c, ↓wr_n, ↓wr_c, c_eqI, c_neI, c_ltI, c_gtI, c_leI, c_geI, d_ltI, d_gtI, d_leI, d_geI, c_isN, c_isntN, kindS, items_tup, true_and, and_true, ln_0, ln_1, ln_2, ln_3, ln_4, ln_5, ln_6, ln_7, ln_8, ln_9, ln_10, ln_11, ln_12, ln_13, ln_14, ln_15, ln_16, ln_17, ln_18, ln_19, ln_20, rp _ _ new_get, ne_str, decide_true, Bool.not_true, nm_n]
        exact ⟨(s24.new).new, _, _, rfl⟩
      · rintro σ h4 ⟨s24, t7, t8, rfl⟩
        have aw4 := aw2.same s24 (by simp)
        have gpc4 := s24.get0 gpc2
        simp -dsimp -failIfUnchanged only [↓wsq_n, ↓wsq_r, ↓wfin_n, ↓wfin_r, ↓ws_nil, ↓ws_cons, ↓ws_expr, ↓ws_set, ↓ws_ret, ↓ws_iff, ↓ws_pass, ↓ws_fb, ↓ws_for, ↓ws_while, ↓ws_wc, ↓ws_wb, ↓wt_tup, ↓wt_nil, ↓wt_cons, ↓wt_sub, ↓wt_fld, ↓we_slot, ↓we_lit, ↓we_op, ↓we_cmp, ↓we_chain, ↓we_nt, ↓we_neg, ↓we_an, ↓we_orr, ↓we_ite, ↓we_tup, ↓we_lst, ↓we_dct, ↓we_sub, ↓we_slc, ↓we_rev, ↓we_fld, ↓we_call, ↓wmk_n, ↓we_mk, ↓we_meth, ↓we_blt, ↓we_bm, ↓we_lc, ↓wes_nil, ↓wes_cons, ↓wes_star, ↓wts_nil, ↓wts_cons, ↓wo_none, ↓wo_some, ↓wi_e, ↓wi_r1, ↓wi_r2, ↓wi_enum, ↓wi_enumS, ↓wi_zip, ↓wnx_n, ↓wnx_r, ↓blq, ↓v_kindS, ↓wb_join, ↓wb_app, ↓wb_pop, ↓wb_ext, ↓wo_lift, ↓x_name, ↓x_lb, ↓x_aug, ↓x_isi, ↓v_isI, ↓v_isB, ↓v_isS, ↓v_isT, ↓v_lenT, ↓v_int, ↓v_max2, ↓v_all, ↓v_any, ↓v_tupL, ↓v_disp0, ↓wk_ok, ↓wo_s, ↓wp_s, ↓wi_i, ↓v_slot0, ↓v_slotS, ↓ss_0, ↓ss_S, ↓sr_n, ↓sr_c, ↓sw_n, ↓sw_c, ↓v_opI, ↓v_add, ↓v_sub, ↓v_tr, ↓v_trO, ↓wf_t, ↓wf_f, ↓v_ix0, ↓v_ix1, ↓v_ix2, ↓v_ix3, ↓v_ix4, ↓v_ix5, ↓v_src, ↓v_perm, ↓wn_0, ↓wn_S, ↓wn_a0, ↓wn_aS, ↓wn_an, ↓dr_n, ↓dr_c, ↓wr_n, ↓wr_c, c_eqI, c_neI, c_ltI, c_gtI, c_leI, c_geI, d_ltI, d_gtI, d_leI, d_geI, c_isN, c_isntN, kindS, items_tup, true_and, and_true, ln_0, ln_1, ln_2, ln_3, ln_4, ln_5, ln_6, ln_7, ln_8, ln_9, ln_10, ln_11, ln_12, ln_13, ln_14, ln_15, ln_16, ln_17, ln_18, ln_19, ln_20]
        refine Ltill_ok ok aw4 vs fun h5 r5 s5' t5 => ?_
        have gpc5 := s5'.get0 gpc4
        simp -dsimp -failIfUnchanged only [↓wsq_n, ↓wsq_r, ↓wfin_n, ↓wfin_r, ↓ws_nil, ↓ws_cons, ↓ws_expr, ↓ws_set, ↓ws_ret, ↓ws_iff, ↓ws_pass, ↓ws_fb, ↓ws_for, ↓ws_while, ↓ws_wc, ↓ws_wb, ↓wt_tup, ↓wt_nil, ↓wt_cons, ↓wt_sub, ↓wt_fld, ↓we_slot, ↓we_lit, ↓we_op, ↓we_cmp, ↓we_chain, ↓we_nt, ↓we_neg, ↓we_an, ↓we_orr, ↓we_ite, ↓we_tup, ↓we_lst, ↓we_dct, ↓we_sub, ↓we_slc, ↓we_rev, ↓we_fld, ↓we_call, ↓wmk_n, ↓we_mk, ↓we_meth, ↓we_blt, ↓we_bm, ↓we_lc, ↓wes_nil, ↓wes_cons, ↓wes_star, ↓wts_nil, ↓wts_cons, ↓wo_none, ↓wo_some, ↓wi_e, ↓wi_r1, ↓wi_r2, ↓wi_enum, ↓wi_enumS, ↓wi_zip, ↓wnx_n, ↓wnx_r, ↓blq, ↓v_kindS, ↓wb_join, ↓wb_app, ↓wb_pop, ↓wb_ext, ↓wo_lift, ↓x_name, ↓x_lb, ↓x_aug, ↓x_isi, ↓v_isI, ↓v_isB, ↓v_isS, ↓v_isT, ↓v_lenT, ↓v_int, ↓v_max2, ↓v_all, ↓v_any, ↓v_tupL, ↓v_disp0, ↓wk_ok, ↓wo_s, ↓wp_s, ↓wi_i, ↓v_slot0, ↓v_slotS, ↓ss_0, ↓ss_S, ↓sr_n, ↓sr_c, ↓sw_n, ↓sw_c, ↓v_opI, ↓v_add, ↓v_sub, ↓v_tr, ↓v_trO, ↓wf_t, ↓wf_f, ↓v_ix0, ↓v_ix1, ↓v_ix2, ↓v_ix3, ↓v_ix4, ↓v_ix5, ↓v_src, ↓v_perm, ↓wn_0, ↓wn_S, ↓wn_a0, ↓wn_aS, ↓wn_an, ↓dr_n, ↓dr_c, ↓wr_n, ↓wr_c, c_eqI, c_neI, c_ltI, c_gtI, c_leI, c_geI, d_ltI, d_gtI, d_leI, d_geI, c_isN, c_isntN, kindS, items_tup, true_and, and_true, ln_0, ln_1, ln_2, ln_3, ln_4, ln_5, ln_6, ln_7, ln_8, ln_9, ln_10, ln_11, ln_12, ln_13, ln_14, ln_15, ln_16, ln_17, ln_18, ln_19, ln_20, m_Panel_till_armed gpc5]
        refine till_armed_ok gpc5 v vs (by omega) fun h6 r6 s6' t6 => ?_
        cases till_one t6 t5
        have gpc6 := s6'.get0 gpc5
        simp -dsimp -failIfUnchanged only [↓wsq_n, ↓wsq_r, ↓wfin_n, ↓wfin_r, ↓ws_nil, ↓ws_cons, ↓ws_expr, ↓ws_set, ↓ws_ret, ↓ws_iff, ↓ws_pass, ↓ws_fb, ↓ws_for, ↓ws_while, ↓ws_wc, ↓ws_wb, ↓wt_tup, ↓wt_nil, ↓wt_cons, ↓wt_sub, ↓wt_fld, ↓we_slot, ↓we_lit, ↓we_op, ↓we_cmp, ↓we_chain, ↓we_nt, ↓we_neg, ↓we_an, ↓we_orr, ↓we_ite, ↓we_tup, ↓we_lst, ↓we_dct, ↓we_sub, ↓we_slc, ↓we_rev, ↓we_fld, ↓we_call, ↓wmk_n, ↓we_mk, ↓we_meth, ↓we_blt, ↓we_bm, ↓we_lc, ↓wes_nil, ↓wes_cons, ↓wes_star, ↓wts_nil, ↓wts_cons, ↓wo_none, ↓wo_some, ↓wi_e, ↓wi_r1, ↓wi_r2, ↓wi_enum, ↓wi_enumS, ↓wi_zip, ↓wnx_n, ↓wnx_r, ↓blq, ↓v_kindS, ↓wb_join, ↓wb_app, ↓wb_pop, ↓wb_ext, ↓wo_lift, ↓x_name, ↓x_lb, ↓x_aug, ↓x_isi, ↓v_isI, ↓v_isB, ↓v_isS, ↓v_isT, ↓v_lenT, ↓v_int, ↓v_max2, ↓v_all, ↓v_any, ↓v_tupL, ↓v_disp0, ↓wk_ok, ↓wo_s, ↓wp_s, ↓wi_i, ↓v_slot0, ↓v_slotS, ↓ss_0, ↓ss_S, ↓sr_n, ↓sr_c, ↓sw_n, ↓sw_c, ↓v_opI, ↓v_add, ↓v_sub, ↓v_tr, ↓v_trO, ↓wf_t, ↓wf_f, ↓v_ix0, ↓v_ix1, ↓v_ix2, ↓v_ix3, ↓v_ix4, ↓v_ix5, ↓v_src, ↓v_perm, ↓wn_0, ↓wn_S, ↓wn_a0, ↓wn_aS, ↓wn_an, ↓dr_n, ↓dr_c, ↓wr_n, ↓wr_c, c_eqI, c_neI, c_ltI, c_gtI, c_leI, c_geI, d_ltI, d_gtI, d_leI, d_geI, c_isN, c_isntN, kindS, items_tup, true_and, and_true, ln_0, ln_1, ln_2, ln_3, ln_4, ln_5, ln_6, ln_7, ln_8, ln_9, ln_10, ln_11, ln_12, ln_13, ln_14, ln_15, ln_16, ln_17, ln_18, ln_19, ln_20, m_Panel_till_armed gpc6]
        refine till_armed_ok gpc6 v vs (by omega) fun h7 r7 s7' t7' => ?_
        cases till_one t7' t5
        have gpc7 := s7'.get0 gpc6
        simp -dsimp -failIfUnchanged only [↓wsq_n, ↓wsq_r, ↓wfin_n, ↓wfin_r, ↓ws_nil, ↓ws_cons, ↓ws_expr, ↓ws_set, ↓ws_ret, ↓ws_iff, ↓ws_pass, ↓ws_fb, ↓ws_for, ↓ws_while, ↓ws_wc, ↓ws_wb, ↓wt_tup, ↓wt_nil, ↓wt_cons, ↓wt_sub, ↓wt_fld, ↓we_slot, ↓we_lit, ↓we_op, ↓we_cmp, ↓we_chain, ↓we_nt, ↓we_neg, ↓we_an, ↓we_orr, ↓we_ite, ↓we_tup, ↓we_lst, ↓we_dct, ↓we_sub, ↓we_slc, ↓we_rev, ↓we_fld, ↓we_call, ↓wmk_n, ↓we_mk, ↓we_meth, ↓we_blt, ↓we_bm, ↓we_lc, ↓wes_nil, ↓wes_cons, ↓wes_star, ↓wts_nil, ↓wts_cons, ↓wo_none, ↓wo_some, ↓wi_e, ↓wi_r1, ↓wi_r2, ↓wi_enum, ↓wi_enumS, ↓wi_zip, ↓wnx_n, ↓wnx_r, ↓blq, ↓v_kindS, ↓wb_join, ↓wb_app, ↓wb_pop, ↓wb_ext, ↓wo_lift, ↓x_name, ↓x_lb, ↓x_aug, ↓x_isi, ↓v_isI, ↓v_isB, ↓v_isS, ↓v_isT, ↓v_lenT, ↓v_int, ↓v_max2, ↓v_all, ↓v_any, ↓v_tupL, ↓v_disp0, ↓wk_ok, ↓wo_s, ↓wp_s, ↓wi_i, ↓v_slot0, ↓v_slotS, ↓ss_0, ↓ss_S, ↓sr_n, ↓sr_c, ↓sw_n, ↓sw_c, ↓v_opI, ↓v_add, ↓v_sub, ↓v_tr, ↓v_trO, ↓wf_t, ↓wf_f, ↓v_ix0, ↓v_ix1, ↓v_ix2, ↓v_ix3, ↓v_ix4, ↓v_ix5, ↓v_src, ↓v_perm, ↓wn_0, ↓wn_S, ↓wn_a0, ↓wn_aS, ↓wn_an, ↓dr_n, ↓dr_c, ↓wr_n, ↓wr_c, c_eqI, c_neI, c_ltI, c_gtI, c_leI, c_geI, d_ltI, d_gtI, d_leI, d_geI, c_isN, c_isntN, kindS, items_tup, true_and, and_true, ln_0, ln_1, ln_2, ln_3, ln_4, ln_5, ln_6, ln_7, ln_8, ln_9, ln_10, ln_11, ln_12, ln_13, ln_14, ln_15, ln_16, ln_17, ln_18, ln_19, ln_20, m_Panel_till_armed gpc7]
        refine till_armed_ok gpc7 v vs (by omega) fun h8 r8 s8' t8' => ?_
        cases till_one t8' t5
        have sw := encO_shw (o := r5) (fun n e => by
          subst e
          have := till_bound t5 (r := allS W.kinds) (fun j => mem_allS.mpr (valid_itn v vs j))
          rw [len_allS] at this
          omega)
        have rp : ∀ h5 i5, h5[i5]? = some (.lst [encO r5, encO r5, encO r5]) → btD .repr [.ref i5] h5 = some (.str (reprL [encO r5, encO r5, encO r5]), h5) := fun h5 i5 g5 =>
          repr_cell (lst_get g5) (by simp only [oks_cons, encO_ok, oks_nil, Bool.and_self]) (by simp only [D.shws, sw.1, Bool.and_self]) (by have := sw.2; simp only [D.wts]; omega)
        have ml : ∀ (h5 : Hh) (i5 : Nat), h5[i5]? = some (C.lst [encO r5]) → opD .mul (.ref i5) (.int 3) h5 = some (.ref h5.length, h5 ++ [C.lst [encO r5, encO r5, encO r5]]) := fun h5 i5 g5 => mul_lst (n := 3) g5 (by simp [maxLen])
        simp -dsimp -failIfUnchanged only [↓wsq_n, ↓wsq_r, ↓wfin_n, ↓wfin_r, ↓ws_nil, ↓ws_cons, ↓ws_expr, ↓ws_set, ↓ws_ret, ↓ws_iff, ↓ws_pass, ↓ws_fb, ↓ws_for, ↓ws_while, ↓ws_wc, ↓ws_wb, ↓wt_tup, ↓wt_nil, ↓wt_cons, ↓wt_sub, ↓wt_fld, ↓we_slot, ↓we_lit, ↓we_op, ↓we_cmp, ↓we_chain, ↓we_nt, ↓we_neg, ↓we_an, ↓we_orr, ↓we_ite, ↓we_tup, ↓we_lst, ↓we_dct, ↓we_sub, ↓we_slc, ↓we_rev, ↓we_fld, ↓we_call, ↓wmk_n, ↓we_mk, ↓we_meth, ↓we_blt, ↓we_bm, ↓we_lc, ↓wes_nil, ↓wes_cons, ↓wes_star, ↓wts_nil, ↓wts_cons, ↓wo_none, ↓wo_some, ↓wi_e, ↓wi_r1, ↓wi_r2, ↓wi_enum, ↓wi_enumS, ↓wi_zip, ↓wnx_n, ↓wnx_r, ↓blq, ↓v_kindS, ↓wb_join, ↓wb_app, ↓wb_pop, ↓wb_ext, ↓wo_lift, ↓x_name, ↓x_lb, ↓x_aug, ↓x_isi, ↓v_isI, ↓v_isB, ↓v_isS, ↓v_isT, ↓v_lenT, ↓v_int, ↓v_max2, ↓v_all, ↓v_any, ↓v_tupL, ↓v_disp0, ↓wk_ok, ↓wo_s, ↓wp_s, ↓wi_i, ↓v_slot0, ↓v_slotS, ↓ss_0, ↓ss_S, ↓sr_n, ↓sr_c, ↓sw_n, ↓sw_c, ↓v_opI, ↓v_add, ↓v_sub, ↓v_tr, ↓v_trO, ↓wf_t, ↓wf_f, ↓v_ix0, ↓v_ix1, ↓v_ix2, ↓v_ix3, ↓v_ix4, ↓v_ix5, ↓v_src, ↓v_perm, ↓wn_0, ↓wn_S, ↓wn_a0, ↓wn_aS, ↓wn_an, ↓dr_n, ↓dr_c, ↓wr_n, ↓wr_c, c_eqI, c_neI, c_ltI, c_gtI, c_leI, c_geI, d_ltI, d_gtI, d_leI, d_geI, c_isN, c_isntN, kindS, items_tup, true_and, and_true, ln_0, ln_1, ln_2, ln_3, ln_4, ln_5, ln_6, ln_7, ln_8, ln_9, ln_10, ln_11, ln_12, ln_13, ln_14, ln_15, ln_16, ln_17, ln_18, ln_19, ln_20, rp _ _ new_get, ml _ _ new_get, ne_str, decide_true, Bool.not_true, nm_n]
        exact ⟨(((((s24.trans s5').trans s6').trans s7').trans s8').new.new).new, _, _, _, _, _, _, _, _, rfl⟩
    · rintro σ h3 ⟨s23, t4, t5, t6, t7, t8, t9, t10, t11, rfl⟩
      have d3 := d2.same s23
      have aw3 := aw2.same s23 (by simp)
      have gpc3 := s23.get0 gpc2
      simp -dsimp -failIfUnchanged only [↓wsq_n, ↓wsq_r, ↓wfin_n, ↓wfin_r, ↓ws_nil, ↓ws_cons, ↓ws_expr, ↓ws_set, ↓ws_ret, ↓ws_iff, ↓ws_pass, ↓ws_fb, ↓ws_for, ↓ws_while, ↓ws_wc, ↓ws_wb, ↓wt_tup, ↓wt_nil, ↓wt_cons, ↓wt_sub, ↓wt_fld, ↓we_slot, ↓we_lit, ↓we_op, ↓we_cmp, ↓we_chain, ↓we_nt, ↓we_neg, ↓we_an, ↓we_orr, ↓we_ite, ↓we_tup, ↓we_lst, ↓we_dct, ↓we_sub, ↓we_slc, ↓we_rev, ↓we_fld, ↓we_call, ↓wmk_n, ↓we_mk, ↓we_meth, ↓we_blt, ↓we_bm, ↓we_lc, ↓wes_nil, ↓wes_cons, ↓wes_star, ↓wts_nil, ↓wts_cons, ↓wo_none, ↓wo_some, ↓wi_e, ↓wi_r1, ↓wi_r2, ↓wi_enum, ↓wi_enumS, ↓wi_zip, ↓wnx_n, ↓wnx_r, ↓blq, ↓v_kindS, ↓wb_join, ↓wb_app, ↓wb_pop, ↓wb_ext, ↓wo_lift, ↓x_name, ↓x_lb, ↓x_aug, ↓x_isi, ↓v_isI, ↓v_isB, ↓v_isS, ↓v_isT, ↓v_lenT, ↓v_int, ↓v_max2, ↓v_all, ↓v_any, ↓v_tupL, ↓v_disp0, ↓wk_ok, ↓wo_s, ↓wp_s, ↓wi_i, ↓v_slot0, ↓v_slotS, ↓ss_0, ↓ss_S, ↓sr_n, ↓sr_c, ↓sw_n, ↓sw_c, ↓v_opI, ↓v_add, ↓v_sub, ↓v_tr, ↓v_trO, ↓wf_t, ↓wf_f, ↓v_ix0, ↓v_ix1, ↓v_ix2, ↓v_ix3, ↓v_ix4, ↓v_ix5, ↓v_src, ↓v_perm, ↓wn_0, ↓wn_S, ↓wn_a0, ↓wn_aS, ↓wn_an, ↓dr_n, ↓dr_c, ↓wr_n, ↓wr_c, c_eqI, c_neI, c_ltI, c_gtI, c_leI, c_geI, d_ltI, d_gtI, d_leI, d_geI, c_isN, c_isntN, kindS, items_tup, true_and, and_true, ln_0, ln_1, ln_2, ln_3, ln_4, ln_5, ln_6, ln_7, ln_8, ln_9, ln_10, ln_11, ln_12, ln_13, ln_14, ln_15, ln_16, ln_17, ln_18, ln_19, ln_20]
      refine Ldraw_ok (by omega) d3 fun n h4 ln d4 s4 => ?_
      have aw4 := aw3.same s4 hbb
      have gpc4 := s4.get gpc3 npc
      have em := sub2 h4 aw4
      have tn : ((m : Int) + 1).toNat = m + 1 := by omega
      have s34 := (s2.trans s23.wide).trans s4
      have ta1 : ∀ h', opD .add (.tup ((W.kinds.map encM).take m)) (.tup [.tup [.bl W.kinds[m].armed, .bl W.kinds[m].rings, .int n, .int W.kinds[m].late]]) h' = some (.tup ((W.kinds.map encM).take m ++ [.tup [.bl W.kinds[m].armed, .bl W.kinds[m].rings, .int n, .int W.kinds[m].late]]), h') := fun h' => o_tadd (by simp [maxLen]; omega)
      have ta2 : ∀ h', opD .add (.tup ((W.kinds.map encM).take m ++ [.tup [.bl W.kinds[m].armed, .bl W.kinds[m].rings, .int n, .int W.kinds[m].late]])) (.tup ((W.kinds.map encM).drop (m + 1))) h' = some (.tup ((setW W.kinds m n).map encM), h') := fun h' => by
        rw [o_tadd (by simp [maxLen]; omega)]
        simp [setW, List.getElem?_eq_getElem hm, encM]
      have aw5 := aw4.same (same_new (c := .lst ((W.kinds.map encM).take m))) (by simp)
      simp -dsimp -failIfUnchanged only [↓wsq_n, ↓wsq_r, ↓wfin_n, ↓wfin_r, ↓ws_nil, ↓ws_cons, ↓ws_expr, ↓ws_set, ↓ws_ret, ↓ws_iff, ↓ws_pass, ↓ws_fb, ↓ws_for, ↓ws_while, ↓ws_wc, ↓ws_wb, ↓wt_tup, ↓wt_nil, ↓wt_cons, ↓wt_sub, ↓wt_fld, ↓we_slot, ↓we_lit, ↓we_op, ↓we_cmp, ↓we_chain, ↓we_nt, ↓we_neg, ↓we_an, ↓we_orr, ↓we_ite, ↓we_tup, ↓we_lst, ↓we_dct, ↓we_sub, ↓we_slc, ↓we_rev, ↓we_fld, ↓we_call, ↓wmk_n, ↓we_mk, ↓we_meth, ↓we_blt, ↓we_bm, ↓we_lc, ↓wes_nil, ↓wes_cons, ↓wes_star, ↓wts_nil, ↓wts_cons, ↓wo_none, ↓wo_some, ↓wi_e, ↓wi_r1, ↓wi_r2, ↓wi_enum, ↓wi_enumS, ↓wi_zip, ↓wnx_n, ↓wnx_r, ↓blq, ↓v_kindS, ↓wb_join, ↓wb_app, ↓wb_pop, ↓wb_ext, ↓wo_lift, ↓x_name, ↓x_lb, ↓x_aug, ↓x_isi, ↓v_isI, ↓v_isB, ↓v_isS, ↓v_isT, ↓v_lenT, ↓v_int, ↓v_max2, ↓v_all, ↓v_any, ↓v_tupL, ↓v_disp0, ↓wk_ok, ↓wo_s, ↓wp_s, ↓wi_i, ↓v_slot0, ↓v_slotS, ↓ss_0, ↓ss_S, ↓sr_n, ↓sr_c, ↓sw_n, ↓sw_c, ↓v_opI, ↓v_add, ↓v_sub, ↓v_tr, ↓v_trO, ↓wf_t, ↓wf_f, ↓v_ix0, ↓v_ix1, ↓v_ix2, ↓v_ix3, ↓v_ix4, ↓v_ix5, ↓v_src, ↓v_perm, ↓wn_0, ↓wn_S, ↓wn_a0, ↓wn_aS, ↓wn_an, ↓dr_n, ↓dr_c, ↓wr_n, ↓wr_c, c_eqI, c_neI, c_ltI, c_gtI, c_leI, c_geI, d_ltI, d_gtI, d_leI, d_geI, c_isN, c_isntN, kindS, items_tup, true_and, and_true, ln_0, ln_1, ln_2, ln_3, ln_4, ln_5, ln_6, ln_7, ln_8, ln_9, ln_10, ln_11, ln_12, ln_13, ln_14, ln_15, ln_16, ln_17, ln_18, ln_19, ln_20, w_kinds aw4.aw, em, slc_lto (lst_get aw4.ak) (Int.natCast_nonneg m), Int.toNat_natCast, encM, ta1, w_kinds aw5.aw, slc_lfrom (lst_get aw5.ak) (show (0 : Int) ≤ (m : Int) + 1 by omega), tn, ta2]
      have s6 : Same h4 (h4 ++ [C.lst ((W.kinds.map encM).take m)] ++ [C.lst ((W.kinds.map encM).drop (m + 1))]) [] := same_new.new
      generalize h4 ++ [C.lst ((W.kinds.map encM).take m)] ++ [C.lst ((W.kinds.map encM).drop (m + 1))] = h6 at s6 ⊢
      have gpc6 := s6.get0 gpc4
      have aw6 := aw4.same s6 (by simp)
      simp -dsimp -failIfUnchanged only [↓wsq_n, ↓wsq_r, ↓wfin_n, ↓wfin_r, ↓ws_nil, ↓ws_cons, ↓ws_expr, ↓ws_set, ↓ws_ret, ↓ws_iff, ↓ws_pass, ↓ws_fb, ↓ws_for, ↓ws_while, ↓ws_wc, ↓ws_wb, ↓wt_tup, ↓wt_nil, ↓wt_cons, ↓wt_sub, ↓wt_fld, ↓we_slot, ↓we_lit, ↓we_op, ↓we_cmp, ↓we_chain, ↓we_nt, ↓we_neg, ↓we_an, ↓we_orr, ↓we_ite, ↓we_tup, ↓we_lst, ↓we_dct, ↓we_sub, ↓we_slc, ↓we_rev, ↓we_fld, ↓we_call, ↓wmk_n, ↓we_mk, ↓we_meth, ↓we_blt, ↓we_bm, ↓we_lc, ↓wes_nil, ↓wes_cons, ↓wes_star, ↓wts_nil, ↓wts_cons, ↓wo_none, ↓wo_some, ↓wi_e, ↓wi_r1, ↓wi_r2, ↓wi_enum, ↓wi_enumS, ↓wi_zip, ↓wnx_n, ↓wnx_r, ↓blq, ↓v_kindS, ↓wb_join, ↓wb_app, ↓wb_pop, ↓wb_ext, ↓wo_lift, ↓x_name, ↓x_lb, ↓x_aug, ↓x_isi, ↓v_isI, ↓v_isB, ↓v_isS, ↓v_isT, ↓v_lenT, ↓v_int, ↓v_max2, ↓v_all, ↓v_any, ↓v_tupL, ↓v_disp0, ↓wk_ok, ↓wo_s, ↓wp_s, ↓wi_i, ↓v_slot0, ↓v_slotS, ↓ss_0, ↓ss_S, ↓sr_n, ↓sr_c, ↓sw_n, ↓sw_c, ↓v_opI, ↓v_add, ↓v_sub, ↓v_tr, ↓v_trO, ↓wf_t, ↓wf_f, ↓v_ix0, ↓v_ix1, ↓v_ix2, ↓v_ix3, ↓v_ix4, ↓v_ix5, ↓v_src, ↓v_perm, ↓wn_0, ↓wn_S, ↓wn_a0, ↓wn_aS, ↓wn_an, ↓dr_n, ↓dr_c, ↓wr_n, ↓wr_c, c_eqI, c_neI, c_ltI, c_gtI, c_leI, c_geI, d_ltI, d_gtI, d_leI, d_geI, c_isN, c_isntN, kindS, items_tup, true_and, and_true, ln_0, ln_1, ln_2, ln_3, ln_4, ln_5, ln_6, ln_7, ln_8, ln_9, ln_10, ln_11, ln_12, ln_13, ln_14, ln_15, ln_16, ln_17, ln_18, ln_19, ln_20, m_Panel_with_wait gpc6]
      refine with_wait_ok gpc6 v hm (by omega) (by simp only [maxLen]; omega) (by simp only [maxLen]; omega) fun h7 f1 s7 lf1 g7 => ?_
      have gpc7 := s7.get0 gpc6
      have aw7 := aw6.same s7 (by simp)
      simp -dsimp -failIfUnchanged only [↓wsq_n, ↓wsq_r, ↓wfin_n, ↓wfin_r, ↓ws_nil, ↓ws_cons, ↓ws_expr, ↓ws_set, ↓ws_ret, ↓ws_iff, ↓ws_pass, ↓ws_fb, ↓ws_for, ↓ws_while, ↓ws_wc, ↓ws_wb, ↓wt_tup, ↓wt_nil, ↓wt_cons, ↓wt_sub, ↓wt_fld, ↓we_slot, ↓we_lit, ↓we_op, ↓we_cmp, ↓we_chain, ↓we_nt, ↓we_neg, ↓we_an, ↓we_orr, ↓we_ite, ↓we_tup, ↓we_lst, ↓we_dct, ↓we_sub, ↓we_slc, ↓we_rev, ↓we_fld, ↓we_call, ↓wmk_n, ↓we_mk, ↓we_meth, ↓we_blt, ↓we_bm, ↓we_lc, ↓wes_nil, ↓wes_cons, ↓wes_star, ↓wts_nil, ↓wts_cons, ↓wo_none, ↓wo_some, ↓wi_e, ↓wi_r1, ↓wi_r2, ↓wi_enum, ↓wi_enumS, ↓wi_zip, ↓wnx_n, ↓wnx_r, ↓blq, ↓v_kindS, ↓wb_join, ↓wb_app, ↓wb_pop, ↓wb_ext, ↓wo_lift, ↓x_name, ↓x_lb, ↓x_aug, ↓x_isi, ↓v_isI, ↓v_isB, ↓v_isS, ↓v_isT, ↓v_lenT, ↓v_int, ↓v_max2, ↓v_all, ↓v_any, ↓v_tupL, ↓v_disp0, ↓wk_ok, ↓wo_s, ↓wp_s, ↓wi_i, ↓v_slot0, ↓v_slotS, ↓ss_0, ↓ss_S, ↓sr_n, ↓sr_c, ↓sw_n, ↓sw_c, ↓v_opI, ↓v_add, ↓v_sub, ↓v_tr, ↓v_trO, ↓wf_t, ↓wf_f, ↓v_ix0, ↓v_ix1, ↓v_ix2, ↓v_ix3, ↓v_ix4, ↓v_ix5, ↓v_src, ↓v_perm, ↓wn_0, ↓wn_S, ↓wn_a0, ↓wn_aS, ↓wn_an, ↓dr_n, ↓dr_c, ↓wr_n, ↓wr_c, c_eqI, c_neI, c_ltI, c_gtI, c_leI, c_geI, d_ltI, d_gtI, d_leI, d_geI, c_isN, c_isntN, kindS, items_tup, true_and, and_true, ln_0, ln_1, ln_2, ln_3, ln_4, ln_5, ln_6, ln_7, ln_8, ln_9, ln_10, ln_11, ln_12, ln_13, ln_14, ln_15, ln_16, ln_17, ln_18, ln_19, ln_20, m_Panel_with_wait gpc7]
      refine with_wait_ok gpc7 v hm (by omega) (by simp only [maxLen]; omega) (by simp only [maxLen]; omega) fun h8 f2 s8 lf2 g8 => ?_
      have aw8 := aw7.same s8 (by simp)
      have g78 := s8.get0 g7
      have vw := setW_vp v hm (w := n) (by omega)
      have hl := setW_len (w := n) hm
      simp -dsimp -failIfUnchanged only [↓wsq_n, ↓wsq_r, ↓wfin_n, ↓wfin_r, ↓ws_nil, ↓ws_cons, ↓ws_expr, ↓ws_set, ↓ws_ret, ↓ws_iff, ↓ws_pass, ↓ws_fb, ↓ws_for, ↓ws_while, ↓ws_wc, ↓ws_wb, ↓wt_tup, ↓wt_nil, ↓wt_cons, ↓wt_sub, ↓wt_fld, ↓we_slot, ↓we_lit, ↓we_op, ↓we_cmp, ↓we_chain, ↓we_nt, ↓we_neg, ↓we_an, ↓we_orr, ↓we_ite, ↓we_tup, ↓we_lst, ↓we_dct, ↓we_sub, ↓we_slc, ↓we_rev, ↓we_fld, ↓we_call, ↓wmk_n, ↓we_mk, ↓we_meth, ↓we_blt, ↓we_bm, ↓we_lc, ↓wes_nil, ↓wes_cons, ↓wes_star, ↓wts_nil, ↓wts_cons, ↓wo_none, ↓wo_some, ↓wi_e, ↓wi_r1, ↓wi_r2, ↓wi_enum, ↓wi_enumS, ↓wi_zip, ↓wnx_n, ↓wnx_r, ↓blq, ↓v_kindS, ↓wb_join, ↓wb_app, ↓wb_pop, ↓wb_ext, ↓wo_lift, ↓x_name, ↓x_lb, ↓x_aug, ↓x_isi, ↓v_isI, ↓v_isB, ↓v_isS, ↓v_isT, ↓v_lenT, ↓v_int, ↓v_max2, ↓v_all, ↓v_any, ↓v_tupL, ↓v_disp0, ↓wk_ok, ↓wo_s, ↓wp_s, ↓wi_i, ↓v_slot0, ↓v_slotS, ↓ss_0, ↓ss_S, ↓sr_n, ↓sr_c, ↓sw_n, ↓sw_c, ↓v_opI, ↓v_add, ↓v_sub, ↓v_tr, ↓v_trO, ↓wf_t, ↓wf_f, ↓v_ix0, ↓v_ix1, ↓v_ix2, ↓v_ix3, ↓v_ix4, ↓v_ix5, ↓v_src, ↓v_perm, ↓wn_0, ↓wn_S, ↓wn_a0, ↓wn_aS, ↓wn_an, ↓dr_n, ↓dr_c, ↓wr_n, ↓wr_c, c_eqI, c_neI, c_ltI, c_gtI, c_leI, c_geI, d_ltI, d_gtI, d_leI, d_geI, c_isN, c_isntN, kindS, items_tup, true_and, and_true, ln_0, ln_1, ln_2, ln_3, ln_4, ln_5, ln_6, ln_7, ln_8, ln_9, ln_10, ln_11, ln_12, ln_13, ln_14, ln_15, ln_16, ln_17, ln_18, ln_19, ln_20, ↓w_imm, ↓wl_cons, w_laws aw8.aw, tup_lst (lst_get aw8.al), ↓k_Panel]
      refine Panel_made vw (by simp only [maxLen]; omega) (by simp only [maxLen]; omega) fun h9 p9 s9 lp9 gp9 => ?_
      have gf1 := s9.get0 g78
      have aw9 := aw8.same s9 (by simp)
      simp -dsimp -failIfUnchanged only [↓wsq_n, ↓wsq_r, ↓wfin_n, ↓wfin_r, ↓ws_nil, ↓ws_cons, ↓ws_expr, ↓ws_set, ↓ws_ret, ↓ws_iff, ↓ws_pass, ↓ws_fb, ↓ws_for, ↓ws_while, ↓ws_wc, ↓ws_wb, ↓wt_tup, ↓wt_nil, ↓wt_cons, ↓wt_sub, ↓wt_fld, ↓we_slot, ↓we_lit, ↓we_op, ↓we_cmp, ↓we_chain, ↓we_nt, ↓we_neg, ↓we_an, ↓we_orr, ↓we_ite, ↓we_tup, ↓we_lst, ↓we_dct, ↓we_sub, ↓we_slc, ↓we_rev, ↓we_fld, ↓we_call, ↓wmk_n, ↓we_mk, ↓we_meth, ↓we_blt, ↓we_bm, ↓we_lc, ↓wes_nil, ↓wes_cons, ↓wes_star, ↓wts_nil, ↓wts_cons, ↓wo_none, ↓wo_some, ↓wi_e, ↓wi_r1, ↓wi_r2, ↓wi_enum, ↓wi_enumS, ↓wi_zip, ↓wnx_n, ↓wnx_r, ↓blq, ↓v_kindS, ↓wb_join, ↓wb_app, ↓wb_pop, ↓wb_ext, ↓wo_lift, ↓x_name, ↓x_lb, ↓x_aug, ↓x_isi, ↓v_isI, ↓v_isB, ↓v_isS, ↓v_isT, ↓v_lenT, ↓v_int, ↓v_max2, ↓v_all, ↓v_any, ↓v_tupL, ↓v_disp0, ↓wk_ok, ↓wo_s, ↓wp_s, ↓wi_i, ↓v_slot0, ↓v_slotS, ↓ss_0, ↓ss_S, ↓sr_n, ↓sr_c, ↓sw_n, ↓sw_c, ↓v_opI, ↓v_add, ↓v_sub, ↓v_tr, ↓v_trO, ↓wf_t, ↓wf_f, ↓v_ix0, ↓v_ix1, ↓v_ix2, ↓v_ix3, ↓v_ix4, ↓v_ix5, ↓v_src, ↓v_perm, ↓wn_0, ↓wn_S, ↓wn_a0, ↓wn_aS, ↓wn_an, ↓dr_n, ↓dr_c, ↓wr_n, ↓wr_c, c_eqI, c_neI, c_ltI, c_gtI, c_leI, c_geI, d_ltI, d_gtI, d_leI, d_geI, c_isN, c_isntN, kindS, items_tup, true_and, and_true, ln_0, ln_1, ln_2, ln_3, ln_4, ln_5, ln_6, ln_7, ln_8, ln_9, ln_10, ln_11, ln_12, ln_13, ln_14, ln_15, ln_16, ln_17, ln_18, ln_19, ln_20, ↓c_neO (is_obj gf1) (m_Panel_eq gf1)]
      refine Panel_eq_ok gf1 gp9 okMt okRt okMt okRt ?_
      rw [peq_self, peq_self]
      have gf2 := s9.get0 g8
      simp -dsimp -failIfUnchanged only [↓wsq_n, ↓wsq_r, ↓wfin_n, ↓wfin_r, ↓ws_nil, ↓ws_cons, ↓ws_expr, ↓ws_set, ↓ws_ret, ↓ws_iff, ↓ws_pass, ↓ws_fb, ↓ws_for, ↓ws_while, ↓ws_wc, ↓ws_wb, ↓wt_tup, ↓wt_nil, ↓wt_cons, ↓wt_sub, ↓wt_fld, ↓we_slot, ↓we_lit, ↓we_op, ↓we_cmp, ↓we_chain, ↓we_nt, ↓we_neg, ↓we_an, ↓we_orr, ↓we_ite, ↓we_tup, ↓we_lst, ↓we_dct, ↓we_sub, ↓we_slc, ↓we_rev, ↓we_fld, ↓we_call, ↓wmk_n, ↓we_mk, ↓we_meth, ↓we_blt, ↓we_bm, ↓we_lc, ↓wes_nil, ↓wes_cons, ↓wes_star, ↓wts_nil, ↓wts_cons, ↓wo_none, ↓wo_some, ↓wi_e, ↓wi_r1, ↓wi_r2, ↓wi_enum, ↓wi_enumS, ↓wi_zip, ↓wnx_n, ↓wnx_r, ↓blq, ↓v_kindS, ↓wb_join, ↓wb_app, ↓wb_pop, ↓wb_ext, ↓wo_lift, ↓x_name, ↓x_lb, ↓x_aug, ↓x_isi, ↓v_isI, ↓v_isB, ↓v_isS, ↓v_isT, ↓v_lenT, ↓v_int, ↓v_max2, ↓v_all, ↓v_any, ↓v_tupL, ↓v_disp0, ↓wk_ok, ↓wo_s, ↓wp_s, ↓wi_i, ↓v_slot0, ↓v_slotS, ↓ss_0, ↓ss_S, ↓sr_n, ↓sr_c, ↓sw_n, ↓sw_c, ↓v_opI, ↓v_add, ↓v_sub, ↓v_tr, ↓v_trO, ↓wf_t, ↓wf_f, ↓v_ix0, ↓v_ix1, ↓v_ix2, ↓v_ix3, ↓v_ix4, ↓v_ix5, ↓v_src, ↓v_perm, ↓wn_0, ↓wn_S, ↓wn_a0, ↓wn_aS, ↓wn_an, ↓dr_n, ↓dr_c, ↓wr_n, ↓wr_c, c_eqI, c_neI, c_ltI, c_gtI, c_leI, c_geI, d_ltI, d_gtI, d_leI, d_geI, c_isN, c_isntN, kindS, items_tup, true_and, and_true, ln_0, ln_1, ln_2, ln_3, ln_4, ln_5, ln_6, ln_7, ln_8, ln_9, ln_10, ln_11, ln_12, ln_13, ln_14, ln_15, ln_16, ln_17, ln_18, ln_19, ln_20, ↓wl_cons, Bool.and_self, Bool.not_true, w_laws aw9.aw, tup_lst (lst_get aw9.al), ↓k_Panel]
      refine Panel_made vw (by simp only [maxLen]; omega) (by simp only [maxLen]; omega) fun h10 p10 s10 lp10 gp10 => ?_
      have gf3 := s10.get0 gf2
      simp -dsimp -failIfUnchanged only [↓wsq_n, ↓wsq_r, ↓wfin_n, ↓wfin_r, ↓ws_nil, ↓ws_cons, ↓ws_expr, ↓ws_set, ↓ws_ret, ↓ws_iff, ↓ws_pass, ↓ws_fb, ↓ws_for, ↓ws_while, ↓ws_wc, ↓ws_wb, ↓wt_tup, ↓wt_nil, ↓wt_cons, ↓wt_sub, ↓wt_fld, ↓we_slot, ↓we_lit, ↓we_op, ↓we_cmp, ↓we_chain, ↓we_nt, ↓we_neg, ↓we_an, ↓we_orr, ↓we_ite, ↓we_tup, ↓we_lst, ↓we_dct, ↓we_sub, ↓we_slc, ↓we_rev, ↓we_fld, ↓we_call, ↓wmk_n, ↓we_mk, ↓we_meth, ↓we_blt, ↓we_bm, ↓we_lc, ↓wes_nil, ↓wes_cons, ↓wes_star, ↓wts_nil, ↓wts_cons, ↓wo_none, ↓wo_some, ↓wi_e, ↓wi_r1, ↓wi_r2, ↓wi_enum, ↓wi_enumS, ↓wi_zip, ↓wnx_n, ↓wnx_r, ↓blq, ↓v_kindS, ↓wb_join, ↓wb_app, ↓wb_pop, ↓wb_ext, ↓wo_lift, ↓x_name, ↓x_lb, ↓x_aug, ↓x_isi, ↓v_isI, ↓v_isB, ↓v_isS, ↓v_isT, ↓v_lenT, ↓v_int, ↓v_max2, ↓v_all, ↓v_any, ↓v_tupL, ↓v_disp0, ↓wk_ok, ↓wo_s, ↓wp_s, ↓wi_i, ↓v_slot0, ↓v_slotS, ↓ss_0, ↓ss_S, ↓sr_n, ↓sr_c, ↓sw_n, ↓sw_c, ↓v_opI, ↓v_add, ↓v_sub, ↓v_tr, ↓v_trO, ↓wf_t, ↓wf_f, ↓v_ix0, ↓v_ix1, ↓v_ix2, ↓v_ix3, ↓v_ix4, ↓v_ix5, ↓v_src, ↓v_perm, ↓wn_0, ↓wn_S, ↓wn_a0, ↓wn_aS, ↓wn_an, ↓dr_n, ↓dr_c, ↓wr_n, ↓wr_c, c_eqI, c_neI, c_ltI, c_gtI, c_leI, c_geI, d_ltI, d_gtI, d_leI, d_geI, c_isN, c_isntN, kindS, items_tup, true_and, and_true, ln_0, ln_1, ln_2, ln_3, ln_4, ln_5, ln_6, ln_7, ln_8, ln_9, ln_10, ln_11, ln_12, ln_13, ln_14, ln_15, ln_16, ln_17, ln_18, ln_19, ln_20, ↓c_neO (is_obj gf3) (m_Panel_eq gf3)]
      refine Panel_eq_ok gf3 gp10 okMt okRt okMt okRt ?_
      rw [peq_self, peq_self]
      simp -dsimp -failIfUnchanged only [↓wsq_n, ↓wsq_r, ↓wfin_n, ↓wfin_r, ↓ws_nil, ↓ws_cons, ↓ws_expr, ↓ws_set, ↓ws_ret, ↓ws_iff, ↓ws_pass, ↓ws_fb, ↓ws_for, ↓ws_while, ↓ws_wc, ↓ws_wb, ↓wt_tup, ↓wt_nil, ↓wt_cons, ↓wt_sub, ↓wt_fld, ↓we_slot, ↓we_lit, ↓we_op, ↓we_cmp, ↓we_chain, ↓we_nt, ↓we_neg, ↓we_an, ↓we_orr, ↓we_ite, ↓we_tup, ↓we_lst, ↓we_dct, ↓we_sub, ↓we_slc, ↓we_rev, ↓we_fld, ↓we_call, ↓wmk_n, ↓we_mk, ↓we_meth, ↓we_blt, ↓we_bm, ↓we_lc, ↓wes_nil, ↓wes_cons, ↓wes_star, ↓wts_nil, ↓wts_cons, ↓wo_none, ↓wo_some, ↓wi_e, ↓wi_r1, ↓wi_r2, ↓wi_enum, ↓wi_enumS, ↓wi_zip, ↓wnx_n, ↓wnx_r, ↓blq, ↓v_kindS, ↓wb_join, ↓wb_app, ↓wb_pop, ↓wb_ext, ↓wo_lift, ↓x_name, ↓x_lb, ↓x_aug, ↓x_isi, ↓v_isI, ↓v_isB, ↓v_isS, ↓v_isT, ↓v_lenT, ↓v_int, ↓v_max2, ↓v_all, ↓v_any, ↓v_tupL, ↓v_disp0, ↓wk_ok, ↓wo_s, ↓wp_s, ↓wi_i, ↓v_slot0, ↓v_slotS, ↓ss_0, ↓ss_S, ↓sr_n, ↓sr_c, ↓sw_n, ↓sw_c, ↓v_opI, ↓v_add, ↓v_sub, ↓v_tr, ↓v_trO, ↓wf_t, ↓wf_f, ↓v_ix0, ↓v_ix1, ↓v_ix2, ↓v_ix3, ↓v_ix4, ↓v_ix5, ↓v_src, ↓v_perm, ↓wn_0, ↓wn_S, ↓wn_a0, ↓wn_aS, ↓wn_an, ↓dr_n, ↓dr_c, ↓wr_n, ↓wr_c, c_eqI, c_neI, c_ltI, c_gtI, c_leI, c_geI, d_ltI, d_gtI, d_leI, d_geI, c_isN, c_isntN, kindS, items_tup, true_and, and_true, ln_0, ln_1, ln_2, ln_3, ln_4, ln_5, ln_6, ln_7, ln_8, ln_9, ln_10, ln_11, ln_12, ln_13, ln_14, ln_15, ln_16, ln_17, ln_18, ln_19, ln_20, Bool.and_self, Bool.not_true, ↓wl_nil, nm_n]
      have sall := ((((s6.trans s7).trans s8).trans s9).trans s10)
      exact ⟨(d4.same sall), s34.trans sall.wide, _, _, _, _, _, _, _, _, _, rfl⟩
  · rintro σ h2 ⟨d2, s2, s3, s4, s5, s6, s7, s8, s9, s10, s11, rfl⟩
    have aw2 := aw1.same s2 hbb
    have gpc2 := s2.get gpc npc
    simp -dsimp -failIfUnchanged only [↓wsq_n, ↓wsq_r, ↓wfin_n, ↓wfin_r, ↓ws_nil, ↓ws_cons, ↓ws_expr, ↓ws_set, ↓ws_ret, ↓ws_iff, ↓ws_pass, ↓ws_fb, ↓ws_for, ↓ws_while, ↓ws_wc, ↓ws_wb, ↓wt_tup, ↓wt_nil, ↓wt_cons, ↓wt_sub, ↓wt_fld, ↓we_slot, ↓we_lit, ↓we_op, ↓we_cmp, ↓we_chain, ↓we_nt, ↓we_neg, ↓we_an, ↓we_orr, ↓we_ite, ↓we_tup, ↓we_lst, ↓we_dct, ↓we_sub, ↓we_slc, ↓we_rev, ↓we_fld, ↓we_call, ↓wmk_n, ↓we_mk, ↓we_meth, ↓we_blt, ↓we_bm, ↓we_lc, ↓wes_nil, ↓wes_cons, ↓wes_star, ↓wts_nil, ↓wts_cons, ↓wo_none, ↓wo_some, ↓wi_e, ↓wi_r1, ↓wi_r2, ↓wi_enum, ↓wi_enumS, ↓wi_zip, ↓wnx_n, ↓wnx_r, ↓blq, ↓v_kindS, ↓wb_join, ↓wb_app, ↓wb_pop, ↓wb_ext, ↓wo_lift, ↓x_name, ↓x_lb, ↓x_aug, ↓x_isi, ↓v_isI, ↓v_isB, ↓v_isS, ↓v_isT, ↓v_lenT, ↓v_int, ↓v_max2, ↓v_all, ↓v_any, ↓v_tupL, ↓v_disp0, ↓wk_ok, ↓wo_s, ↓wp_s, ↓wi_i, ↓v_slot0, ↓v_slotS, ↓ss_0, ↓ss_S, ↓sr_n, ↓sr_c, ↓sw_n, ↓sw_c, ↓v_opI, ↓v_add, ↓v_sub, ↓v_tr, ↓v_trO, ↓wf_t, ↓wf_f, ↓v_ix0, ↓v_ix1, ↓v_ix2, ↓v_ix3, ↓v_ix4, ↓v_ix5, ↓v_src, ↓v_perm, ↓wn_0, ↓wn_S, ↓wn_a0, ↓wn_aS, ↓wn_an, ↓dr_n, ↓dr_c, ↓wr_n, ↓wr_c, c_eqI, c_neI, c_ltI, c_gtI, c_leI, c_geI, d_ltI, d_gtI, d_leI, d_geI, c_isN, c_isntN, kindS, items_tup, true_and, and_true, ln_0, ln_1, ln_2, ln_3, ln_4, ln_5, ln_6, ln_7, ln_8, ln_9, ln_10, ln_11, ln_12, ln_13, ln_14, ln_15, ln_16, ln_17, ln_18, ln_19, ln_20, a_Panel_modes gpc2, a_Panel_rules gpc2]
    have aw3 := aw2.same (same_new (c := .lst [.tup (W.kinds.map encM), .tup (W.laws.map encR)])) (by simp)
    have g3 : (h2 ++ [C.lst [.tup (W.kinds.map encM), .tup (W.laws.map encR)]])[h2.length]? = some (.lst [.tup (W.kinds.map encM), .tup (W.laws.map encR)]) := new_get
    have ce := c_eqC (P := P) (call := fnAt P (k + 7)) (lst_get ((same_new (c := .lst [.tup (W.kinds.map encM), .tup (W.laws.map encR)])).get0 g3)) (lst_new (xs := [.tup (W.kinds.map encM), .tup (W.laws.map encR)])) (by simp only [oks_cons, okMt, okRt, oks_nil, Bool.and_self]) (by simp only [oks_cons, okMt, okRt, oks_nil, Bool.and_self])
    simp -dsimp -failIfUnchanged only [↓wsq_n, ↓wsq_r, ↓wfin_n, ↓wfin_r, ↓ws_nil, ↓ws_cons, ↓ws_expr, ↓ws_set, ↓ws_ret, ↓ws_iff, ↓ws_pass, ↓ws_fb, ↓ws_for, ↓ws_while, ↓ws_wc, ↓ws_wb, ↓wt_tup, ↓wt_nil, ↓wt_cons, ↓wt_sub, ↓wt_fld, ↓we_slot, ↓we_lit, ↓we_op, ↓we_cmp, ↓we_chain, ↓we_nt, ↓we_neg, ↓we_an, ↓we_orr, ↓we_ite, ↓we_tup, ↓we_lst, ↓we_dct, ↓we_sub, ↓we_slc, ↓we_rev, ↓we_fld, ↓we_call, ↓wmk_n, ↓we_mk, ↓we_meth, ↓we_blt, ↓we_bm, ↓we_lc, ↓wes_nil, ↓wes_cons, ↓wes_star, ↓wts_nil, ↓wts_cons, ↓wo_none, ↓wo_some, ↓wi_e, ↓wi_r1, ↓wi_r2, ↓wi_enum, ↓wi_enumS, ↓wi_zip, ↓wnx_n, ↓wnx_r, ↓blq, ↓v_kindS, ↓wb_join, ↓wb_app, ↓wb_pop, ↓wb_ext, ↓wo_lift, ↓x_name, ↓x_lb, ↓x_aug, ↓x_isi, ↓v_isI, ↓v_isB, ↓v_isS, ↓v_isT, ↓v_lenT, ↓v_int, ↓v_max2, ↓v_all, ↓v_any, ↓v_tupL, ↓v_disp0, ↓wk_ok, ↓wo_s, ↓wp_s, ↓wi_i, ↓v_slot0, ↓v_slotS, ↓ss_0, ↓ss_S, ↓sr_n, ↓sr_c, ↓sw_n, ↓sw_c, ↓v_opI, ↓v_add, ↓v_sub, ↓v_tr, ↓v_trO, ↓wf_t, ↓wf_f, ↓v_ix0, ↓v_ix1, ↓v_ix2, ↓v_ix3, ↓v_ix4, ↓v_ix5, ↓v_src, ↓v_perm, ↓wn_0, ↓wn_S, ↓wn_a0, ↓wn_aS, ↓wn_an, ↓dr_n, ↓dr_c, ↓wr_n, ↓wr_c, c_eqI, c_neI, c_ltI, c_gtI, c_leI, c_geI, d_ltI, d_gtI, d_leI, d_geI, c_isN, c_isntN, kindS, items_tup, true_and, and_true, ln_0, ln_1, ln_2, ln_3, ln_4, ln_5, ln_6, ln_7, ln_8, ln_9, ln_10, ln_11, ln_12, ln_13, ln_14, ln_15, ln_16, ln_17, ln_18, ln_19, ln_20, w_kinds aw3.aw, w_laws aw3.aw, tup_lst (lst_get aw3.ak), tup_lst (lst_get aw3.al), ce, peqs_self]
    exact q _ ((d2.same same_new).same same_new) (((s1.wide.trans s2).new).new)
end
end Lw
end
section
set_option autoImplicit false
set_option Elab.async false
set_option linter.all false
set_option maxRecDepth 8000
set_option maxHeartbeats 4000000


namespace Lw
open PySem Q Qw
def ringMs : List Md := (List.range 5).map fun k => ⟨k == 4, false, 6, (k + 1) % 5⟩
def ring2 : List Md := ringMs.take 4 ++ [⟨false, false, 6, 0⟩]
def wideMs : List Md := [⟨false, false, 0, 0⟩, ⟨true, false, 0, 1⟩, ⟨false, true, 0, 2⟩]
def wideRs : List Rl := [⟨0, 65, 1⟩] ++ [⟨1, 65, 0⟩, ⟨0, 65, 0⟩, ⟨1, 65, 0⟩, ⟨0, 65, 0⟩, ⟨1, 65, 0⟩, ⟨0, 65, 0⟩, ⟨1, 65, 0⟩, ⟨0, 65, 0⟩, ⟨1, 65, 0⟩, ⟨0, 65, 0⟩] ++ [⟨0, 66, 2⟩] ++ [⟨2, 67, 1⟩, ⟨0, 66, 0⟩, ⟨2, 67, 1⟩, ⟨0, 66, 0⟩, ⟨2, 67, 1⟩, ⟨0, 66, 0⟩] ++ [⟨1, 67, 1⟩, ⟨0, 67, 1⟩]
def wideS : List Str := ["A", "B", "C", "BC", "ABCD", "E"]
def wideA : List D := wideS.map fun y => encA (goesP wideMs wideRs 0 0 y.cps.toList)
def twoMs : List Md := [⟨false, false, 0, 0⟩, ⟨true, false, 2, 0⟩]
def twoRs : List Rl := [⟨0, 66, 1⟩, ⟨0, 65, 0⟩, ⟨1, 65, 1⟩]
theorem vp_of {ms : List Md} {rs : List Rl} (h : (!ms.isEmpty && ms.all (fun m => decide (m.late < ms.length) && decide (m.wait ≤ 99)) && rs.all (fun r => decide (r.next < ms.length) && decide (r.here < ms.length) && decide (65 ≤ r.sig) && decide (r.sig ≤ 90))) = true) : VP ms rs := by
  simp only [Bool.and_eq_true, List.all_eq_true, decide_eq_true_eq, Bool.not_eq_true'] at h
  obtain ⟨⟨h1, h2⟩, h3⟩ := h
  exact ⟨fun z => by rw [z] at h1; simp at h1, fun m hm => (h2 m hm).1, fun r hr => (h3 r hr).1.1.1, fun m hm => (h2 m hm).2, fun r hr => (h3 r hr).1.1.2, fun r hr => ⟨(h3 r hr).1.2, (h3 r hr).2⟩⟩
theorem vp_ring : VP ringMs [] := vp_of (by decide +kernel)
theorem vp_ring2 : VP ring2 [] := vp_of (by decide +kernel)
theorem vp_wide : VP wideMs wideRs := vp_of (by decide +kernel)
theorem vp_two : VP twoMs twoRs := vp_of (by decide +kernel)
theorem ring_till : Till (goF ringMs []) (armS ringMs) (0, 0) (some 24) := by
  refine ⟨by decide +kernel, ?_⟩
  have : ∀ j, j < 24 → armS ringMs (itn (goF ringMs []) j (0, 0)) = false := by decide +kernel
  exact this
theorem ring2_till : Till (goF ring2 []) (armS ring2) (0, 5) none := by
  intro j
  generalize itn (goF ring2 []) j (0, 5) = s
  have : ∀ m ∈ ring2, m.armed = false := by decide +kernel
  simp only [armS]
  split
  · next md e => exact this md (List.mem_of_getElem? e)
  · rfl
theorem mul_tup {xs : List D} {n : Int} {h : Hh} (l : 2 ≤ n ∧ n ≤ 1000 ∧ xs ≠ [] ∧ xs.length ≤ 1000) : opD .mul (.tup xs) (.int n) h = some (.tup (repL n.toNat xs), h) := by
  simp only [opD]
  rw [if_pos (by simpa using l)]
section
variable {X : Ex} {k : Nat} {h : Hh} {Q : D → Hh → Prop}
theorem law_ok {x0 : Nat} {ns : List Int} (h0 : lstOf h (.ref x0) = some (ns.map .int)) (q : ∀ h1, Q (.bl true) h1) : Wk X Q (fnAt P (k + 20) F_law [.ref x0] h) := by
  rw [r_law]
  unfold T_law
  simp -dsimp -failIfUnchanged only [↓wsq_n, ↓wsq_r, ↓wfin_n, ↓wfin_r, ↓ws_nil, ↓ws_cons, ↓ws_expr, ↓ws_set, ↓ws_ret, ↓ws_iff, ↓ws_pass, ↓ws_fb, ↓ws_for, ↓ws_while, ↓ws_wc, ↓ws_wb, ↓wt_tup, ↓wt_nil, ↓wt_cons, ↓wt_sub, ↓wt_fld, ↓we_slot, ↓we_lit, ↓we_op, ↓we_cmp, ↓we_chain, ↓we_nt, ↓we_neg, ↓we_an, ↓we_orr, ↓we_ite, ↓we_tup, ↓we_lst, ↓we_dct, ↓we_sub, ↓we_slc, ↓we_rev, ↓we_fld, ↓we_call, ↓wmk_n, ↓we_mk, ↓we_meth, ↓we_blt, ↓we_bm, ↓we_lc, ↓wes_nil, ↓wes_cons, ↓wes_star, ↓wts_nil, ↓wts_cons, ↓wo_none, ↓wo_some, ↓wi_e, ↓wi_r1, ↓wi_r2, ↓wi_enum, ↓wi_enumS, ↓wi_zip, ↓wnx_n, ↓wnx_r, ↓blq, ↓v_kindS, ↓wb_join, ↓wb_app, ↓wb_pop, ↓wb_ext, ↓wo_lift, ↓x_name, ↓x_lb, ↓x_aug, ↓x_isi, ↓v_isI, ↓v_isB, ↓v_isS, ↓v_isT, ↓v_lenT, ↓v_int, ↓v_max2, ↓v_all, ↓v_any, ↓v_tupL, ↓v_disp0, ↓wk_ok, ↓wo_s, ↓wp_s, ↓wi_i, ↓v_slot0, ↓v_slotS, ↓ss_0, ↓ss_S, ↓sr_n, ↓sr_c, ↓sw_n, ↓sw_c, ↓v_opI, ↓v_add, ↓v_sub, ↓v_tr, ↓v_trO, ↓wf_t, ↓wf_f, ↓v_ix0, ↓v_ix1, ↓v_ix2, ↓v_ix3, ↓v_ix4, ↓v_ix5, ↓v_src, ↓v_perm, ↓wn_0, ↓wn_S, ↓wn_a0, ↓wn_aS, ↓wn_an, ↓dr_n, ↓dr_c, ↓wr_n, ↓wr_c, c_eqI, c_neI, c_ltI, c_gtI, c_leI, c_geI, d_ltI, d_gtI, d_leI, d_geI, c_isN, c_isntN, kindS, items_tup, true_and, and_true, ln_0, ln_1, ln_2, ln_3, ln_4, ln_5, ln_6, ln_7, ln_8, ln_9, ln_10, ln_11, ln_12, ln_13, ln_14, ln_15, ln_16, ln_17, ln_18, ln_19, ln_20]
  refine Ldeck_ok h0 fun h1 i j d1 li lj s1 => ?_
  have lt := fun (h : Hh) (d : Deck h i j) => (show i < h.length ∧ j < h.length from ⟨lt_of_get d.2.choose_spec.choose_spec.choose_spec.1, lt_of_get d.2.choose_spec.choose_spec.choose_spec.2.1⟩)
  simp -dsimp -failIfUnchanged only [↓wsq_n, ↓wsq_r, ↓wfin_n, ↓wfin_r, ↓ws_nil, ↓ws_cons, ↓ws_expr, ↓ws_set, ↓ws_ret, ↓ws_iff, ↓ws_pass, ↓ws_fb, ↓ws_for, ↓ws_while, ↓ws_wc, ↓ws_wb, ↓wt_tup, ↓wt_nil, ↓wt_cons, ↓wt_sub, ↓wt_fld, ↓we_slot, ↓we_lit, ↓we_op, ↓we_cmp, ↓we_chain, ↓we_nt, ↓we_neg, ↓we_an, ↓we_orr, ↓we_ite, ↓we_tup, ↓we_lst, ↓we_dct, ↓we_sub, ↓we_slc, ↓we_rev, ↓we_fld, ↓we_call, ↓wmk_n, ↓we_mk, ↓we_meth, ↓we_blt, ↓we_bm, ↓we_lc, ↓wes_nil, ↓wes_cons, ↓wes_star, ↓wts_nil, ↓wts_cons, ↓wo_none, ↓wo_some, ↓wi_e, ↓wi_r1, ↓wi_r2, ↓wi_enum, ↓wi_enumS, ↓wi_zip, ↓wnx_n, ↓wnx_r, ↓blq, ↓v_kindS, ↓wb_join, ↓wb_app, ↓wb_pop, ↓wb_ext, ↓wo_lift, ↓x_name, ↓x_lb, ↓x_aug, ↓x_isi, ↓v_isI, ↓v_isB, ↓v_isS, ↓v_isT, ↓v_lenT, ↓v_int, ↓v_max2, ↓v_all, ↓v_any, ↓v_tupL, ↓v_disp0, ↓wk_ok, ↓wo_s, ↓wp_s, ↓wi_i, ↓v_slot0, ↓v_slotS, ↓ss_0, ↓ss_S, ↓sr_n, ↓sr_c, ↓sw_n, ↓sw_c, ↓v_opI, ↓v_add, ↓v_sub, ↓v_tr, ↓v_trO, ↓wf_t, ↓wf_f, ↓v_ix0, ↓v_ix1, ↓v_ix2, ↓v_ix3, ↓v_ix4, ↓v_ix5, ↓v_src, ↓v_perm, ↓wn_0, ↓wn_S, ↓wn_a0, ↓wn_aS, ↓wn_an, ↓dr_n, ↓dr_c, ↓wr_n, ↓wr_c, c_eqI, c_neI, c_ltI, c_gtI, c_leI, c_geI, d_ltI, d_gtI, d_leI, d_geI, c_isN, c_isntN, kindS, items_tup, true_and, and_true, ln_0, ln_1, ln_2, ln_3, ln_4, ln_5, ln_6, ln_7, ln_8, ln_9, ln_10, ln_11, ln_12, ln_13, ln_14, ln_15, ln_16, ln_17, ln_18, ln_19, ln_20]
  refine ⟨by simp [okRange], ?_⟩
  refine w_for natD (List.range 6) (fun a r σ h' => Deck h' i j ∧ ∃ s2 s3 s4 s5 s6 s7 s8 s9, σ = [some (.ref x0), some (.ref i), s2, s3, s4, s5, s6, s7, s8, s9]) (fun a r σ h1 e z => at_range (n := 6)) ?_ ?_ ⟨d1, _, _, _, _, _, _, _, _, rfl⟩
  · rintro a x r σ h2 ea ⟨d2, s2, s3, s4, s5, s6, s7, s8, s9, rfl⟩
    simp -dsimp -failIfUnchanged only [↓wsq_n, ↓wsq_r, ↓wfin_n, ↓wfin_r, ↓ws_nil, ↓ws_cons, ↓ws_expr, ↓ws_set, ↓ws_ret, ↓ws_iff, ↓ws_pass, ↓ws_fb, ↓ws_for, ↓ws_while, ↓ws_wc, ↓ws_wb, ↓wt_tup, ↓wt_nil, ↓wt_cons, ↓wt_sub, ↓wt_fld, ↓we_slot, ↓we_lit, ↓we_op, ↓we_cmp, ↓we_chain, ↓we_nt, ↓we_neg, ↓we_an, ↓we_orr, ↓we_ite, ↓we_tup, ↓we_lst, ↓we_dct, ↓we_sub, ↓we_slc, ↓we_rev, ↓we_fld, ↓we_call, ↓wmk_n, ↓we_mk, ↓we_meth, ↓we_blt, ↓we_bm, ↓we_lc, ↓wes_nil, ↓wes_cons, ↓wes_star, ↓wts_nil, ↓wts_cons, ↓wo_none, ↓wo_some, ↓wi_e, ↓wi_r1, ↓wi_r2, ↓wi_enum, ↓wi_enumS, ↓wi_zip, ↓wnx_n, ↓wnx_r, ↓blq, ↓v_kindS, ↓wb_join, ↓wb_app, ↓wb_pop, ↓wb_ext, ↓wo_lift, ↓x_name, ↓x_lb, ↓x_aug, ↓x_isi, ↓v_isI, ↓v_isB, ↓v_isS, ↓v_isT, ↓v_lenT, ↓v_int, ↓v_max2, ↓v_all, ↓v_any, ↓v_tupL, ↓v_disp0, ↓wk_ok, ↓wo_s, ↓wp_s, ↓wi_i, ↓v_slot0, ↓v_slotS, ↓ss_0, ↓ss_S, ↓sr_n, ↓sr_c, ↓sw_n, ↓sw_c, ↓v_opI, ↓v_add, ↓v_sub, ↓v_tr, ↓v_trO, ↓wf_t, ↓wf_f, ↓v_ix0, ↓v_ix1, ↓v_ix2, ↓v_ix3, ↓v_ix4, ↓v_ix5, ↓v_src, ↓v_perm, ↓wn_0, ↓wn_S, ↓wn_a0, ↓wn_aS, ↓wn_an, ↓dr_n, ↓dr_c, ↓wr_n, ↓wr_c, c_eqI, c_neI, c_ltI, c_gtI, c_leI, c_geI, d_ltI, d_gtI, d_leI, d_geI, c_isN, c_isntN, kindS, items_tup, true_and, and_true, ln_0, ln_1, ln_2, ln_3, ln_4, ln_5, ln_6, ln_7, ln_8, ln_9, ln_10, ln_11, ln_12, ln_13, ln_14, ln_15, ln_16, ln_17, ln_18, ln_19, ln_20]
    refine Lworld_ok (top := 2) (by omega) d2 (lt h2 d2) fun h3 w ls lk ll W ok aw d3 s23 => ?_
    simp -dsimp -failIfUnchanged only [↓wsq_n, ↓wsq_r, ↓wfin_n, ↓wfin_r, ↓ws_nil, ↓ws_cons, ↓ws_expr, ↓ws_set, ↓ws_ret, ↓ws_iff, ↓ws_pass, ↓ws_fb, ↓ws_for, ↓ws_while, ↓ws_wc, ↓ws_wb, ↓wt_tup, ↓wt_nil, ↓wt_cons, ↓wt_sub, ↓wt_fld, ↓we_slot, ↓we_lit, ↓we_op, ↓we_cmp, ↓we_chain, ↓we_nt, ↓we_neg, ↓we_an, ↓we_orr, ↓we_ite, ↓we_tup, ↓we_lst, ↓we_dct, ↓we_sub, ↓we_slc, ↓we_rev, ↓we_fld, ↓we_call, ↓wmk_n, ↓we_mk, ↓we_meth, ↓we_blt, ↓we_bm, ↓we_lc, ↓wes_nil, ↓wes_cons, ↓wes_star, ↓wts_nil, ↓wts_cons, ↓wo_none, ↓wo_some, ↓wi_e, ↓wi_r1, ↓wi_r2, ↓wi_enum, ↓wi_enumS, ↓wi_zip, ↓wnx_n, ↓wnx_r, ↓blq, ↓v_kindS, ↓wb_join, ↓wb_app, ↓wb_pop, ↓wb_ext, ↓wo_lift, ↓x_name, ↓x_lb, ↓x_aug, ↓x_isi, ↓v_isI, ↓v_isB, ↓v_isS, ↓v_isT, ↓v_lenT, ↓v_int, ↓v_max2, ↓v_all, ↓v_any, ↓v_tupL, ↓v_disp0, ↓wk_ok, ↓wo_s, ↓wp_s, ↓wi_i, ↓v_slot0, ↓v_slotS, ↓ss_0, ↓ss_S, ↓sr_n, ↓sr_c, ↓sw_n, ↓sw_c, ↓v_opI, ↓v_add, ↓v_sub, ↓v_tr, ↓v_trO, ↓wf_t, ↓wf_f, ↓v_ix0, ↓v_ix1, ↓v_ix2, ↓v_ix3, ↓v_ix4, ↓v_ix5, ↓v_src, ↓v_perm, ↓wn_0, ↓wn_S, ↓wn_a0, ↓wn_aS, ↓wn_an, ↓dr_n, ↓dr_c, ↓wr_n, ↓wr_c, c_eqI, c_neI, c_ltI, c_gtI, c_leI, c_geI, d_ltI, d_gtI, d_leI, d_geI, c_isN, c_isntN, kindS, items_tup, true_and, and_true, ln_0, ln_1, ln_2, ln_3, ln_4, ln_5, ln_6, ln_7, ln_8, ln_9, ln_10, ln_11, ln_12, ln_13, ln_14, ln_15, ln_16, ln_17, ln_18, ln_19, ln_20]
    refine Lright_ok ok d3 aw (lt h2 d2) fun h4 d4 s34 => ?_
    simp -dsimp -failIfUnchanged only [↓wsq_n, ↓wsq_r, ↓wfin_n, ↓wfin_r, ↓ws_nil, ↓ws_cons, ↓ws_expr, ↓ws_set, ↓ws_ret, ↓ws_iff, ↓ws_pass, ↓ws_fb, ↓ws_for, ↓ws_while, ↓ws_wc, ↓ws_wb, ↓wt_tup, ↓wt_nil, ↓wt_cons, ↓wt_sub, ↓wt_fld, ↓we_slot, ↓we_lit, ↓we_op, ↓we_cmp, ↓we_chain, ↓we_nt, ↓we_neg, ↓we_an, ↓we_orr, ↓we_ite, ↓we_tup, ↓we_lst, ↓we_dct, ↓we_sub, ↓we_slc, ↓we_rev, ↓we_fld, ↓we_call, ↓wmk_n, ↓we_mk, ↓we_meth, ↓we_blt, ↓we_bm, ↓we_lc, ↓wes_nil, ↓wes_cons, ↓wes_star, ↓wts_nil, ↓wts_cons, ↓wo_none, ↓wo_some, ↓wi_e, ↓wi_r1, ↓wi_r2, ↓wi_enum, ↓wi_enumS, ↓wi_zip, ↓wnx_n, ↓wnx_r, ↓blq, ↓v_kindS, ↓wb_join, ↓wb_app, ↓wb_pop, ↓wb_ext, ↓wo_lift, ↓x_name, ↓x_lb, ↓x_aug, ↓x_isi, ↓v_isI, ↓v_isB, ↓v_isS, ↓v_isT, ↓v_lenT, ↓v_int, ↓v_max2, ↓v_all, ↓v_any, ↓v_tupL, ↓v_disp0, ↓wk_ok, ↓wo_s, ↓wp_s, ↓wi_i, ↓v_slot0, ↓v_slotS, ↓ss_0, ↓ss_S, ↓sr_n, ↓sr_c, ↓sw_n, ↓sw_c, ↓v_opI, ↓v_add, ↓v_sub, ↓v_tr, ↓v_trO, ↓wf_t, ↓wf_f, ↓v_ix0, ↓v_ix1, ↓v_ix2, ↓v_ix3, ↓v_ix4, ↓v_ix5, ↓v_src, ↓v_perm, ↓wn_0, ↓wn_S, ↓wn_a0, ↓wn_aS, ↓wn_an, ↓dr_n, ↓dr_c, ↓wr_n, ↓wr_c, c_eqI, c_neI, c_ltI, c_gtI, c_leI, c_geI, d_ltI, d_gtI, d_leI, d_geI, c_isN, c_isntN, kindS, items_tup, true_and, and_true, ln_0, ln_1, ln_2, ln_3, ln_4, ln_5, ln_6, ln_7, ln_8, ln_9, ln_10, ln_11, ln_12, ln_13, ln_14, ln_15, ln_16, ln_17, ln_18, ln_19, ln_20, Bool.not_true, nm_n]
    exact ⟨d4, _, _, _, _, _, _, _, _, rfl⟩
  rintro σ h2 ⟨d2, s2, s3, s4, s5, s6, s7, s8, s9, rfl⟩
  simp -dsimp -failIfUnchanged only [↓wsq_n, ↓wsq_r, ↓wfin_n, ↓wfin_r, ↓ws_nil, ↓ws_cons, ↓ws_expr, ↓ws_set, ↓ws_ret, ↓ws_iff, ↓ws_pass, ↓ws_fb, ↓ws_for, ↓ws_while, ↓ws_wc, ↓ws_wb, ↓wt_tup, ↓wt_nil, ↓wt_cons, ↓wt_sub, ↓wt_fld, ↓we_slot, ↓we_lit, ↓we_op, ↓we_cmp, ↓we_chain, ↓we_nt, ↓we_neg, ↓we_an, ↓we_orr, ↓we_ite, ↓we_tup, ↓we_lst, ↓we_dct, ↓we_sub, ↓we_slc, ↓we_rev, ↓we_fld, ↓we_call, ↓wmk_n, ↓we_mk, ↓we_meth, ↓we_blt, ↓we_bm, ↓we_lc, ↓wes_nil, ↓wes_cons, ↓wes_star, ↓wts_nil, ↓wts_cons, ↓wo_none, ↓wo_some, ↓wi_e, ↓wi_r1, ↓wi_r2, ↓wi_enum, ↓wi_enumS, ↓wi_zip, ↓wnx_n, ↓wnx_r, ↓blq, ↓v_kindS, ↓wb_join, ↓wb_app, ↓wb_pop, ↓wb_ext, ↓wo_lift, ↓x_name, ↓x_lb, ↓x_aug, ↓x_isi, ↓v_isI, ↓v_isB, ↓v_isS, ↓v_isT, ↓v_lenT, ↓v_int, ↓v_max2, ↓v_all, ↓v_any, ↓v_tupL, ↓v_disp0, ↓wk_ok, ↓wo_s, ↓wp_s, ↓wi_i, ↓v_slot0, ↓v_slotS, ↓ss_0, ↓ss_S, ↓sr_n, ↓sr_c, ↓sw_n, ↓sw_c, ↓v_opI, ↓v_add, ↓v_sub, ↓v_tr, ↓v_trO, ↓wf_t, ↓wf_f, ↓v_ix0, ↓v_ix1, ↓v_ix2, ↓v_ix3, ↓v_ix4, ↓v_ix5, ↓v_src, ↓v_perm, ↓wn_0, ↓wn_S, ↓wn_a0, ↓wn_aS, ↓wn_an, ↓dr_n, ↓dr_c, ↓wr_n, ↓wr_c, c_eqI, c_neI, c_ltI, c_gtI, c_leI, c_geI, d_ltI, d_gtI, d_leI, d_geI, c_isN, c_isntN, kindS, items_tup, true_and, and_true, ln_0, ln_1, ln_2, ln_3, ln_4, ln_5, ln_6, ln_7, ln_8, ln_9, ln_10, ln_11, ln_12, ln_13, ln_14, ln_15, ln_16, ln_17, ln_18, ln_19, ln_20]
  refine ⟨by simp [okRange], ?_⟩
  refine w_pure natD (List.range 5) (fun k => some (encM ⟨k == 4, false, 6, (k + 1) % 5⟩)) (by simp [maxLen]) (fun h1 s1 => at_range (n := 5)) ?_ ?_
  · intro c h1 Q1 hc s1 q1
    have e1 : decide ((c : Int) = 4) = (c == 4) := by rw [Bool.eq_iff_iff]; simp; omega
    have e2 : ((c : Int) + 1).fmod 5 = (((c + 1) % 5 : Nat) : Int) := by rw [Int.fmod_eq_emod_of_nonneg _ (by omega)]; omega
    simp -dsimp -failIfUnchanged only [↓wsq_n, ↓wsq_r, ↓wfin_n, ↓wfin_r, ↓ws_nil, ↓ws_cons, ↓ws_expr, ↓ws_set, ↓ws_ret, ↓ws_iff, ↓ws_pass, ↓ws_fb, ↓ws_for, ↓ws_while, ↓ws_wc, ↓ws_wb, ↓wt_tup, ↓wt_nil, ↓wt_cons, ↓wt_sub, ↓wt_fld, ↓we_slot, ↓we_lit, ↓we_op, ↓we_cmp, ↓we_chain, ↓we_nt, ↓we_neg, ↓we_an, ↓we_orr, ↓we_ite, ↓we_tup, ↓we_lst, ↓we_dct, ↓we_sub, ↓we_slc, ↓we_rev, ↓we_fld, ↓we_call, ↓wmk_n, ↓we_mk, ↓we_meth, ↓we_blt, ↓we_bm, ↓we_lc, ↓wes_nil, ↓wes_cons, ↓wes_star, ↓wts_nil, ↓wts_cons, ↓wo_none, ↓wo_some, ↓wi_e, ↓wi_r1, ↓wi_r2, ↓wi_enum, ↓wi_enumS, ↓wi_zip, ↓wnx_n, ↓wnx_r, ↓blq, ↓v_kindS, ↓wb_join, ↓wb_app, ↓wb_pop, ↓wb_ext, ↓wo_lift, ↓x_name, ↓x_lb, ↓x_aug, ↓x_isi, ↓v_isI, ↓v_isB, ↓v_isS, ↓v_isT, ↓v_lenT, ↓v_int, ↓v_max2, ↓v_all, ↓v_any, ↓v_tupL, ↓v_disp0, ↓wk_ok, ↓wo_s, ↓wp_s, ↓wi_i, ↓v_slot0, ↓v_slotS, ↓ss_0, ↓ss_S, ↓sr_n, ↓sr_c, ↓sw_n, ↓sw_c, ↓v_opI, ↓v_add, ↓v_sub, ↓v_tr, ↓v_trO, ↓wf_t, ↓wf_f, ↓v_ix0, ↓v_ix1, ↓v_ix2, ↓v_ix3, ↓v_ix4, ↓v_ix5, ↓v_src, ↓v_perm, ↓wn_0, ↓wn_S, ↓wn_a0, ↓wn_aS, ↓wn_an, ↓dr_n, ↓dr_c, ↓wr_n, ↓wr_c, c_eqI, c_neI, c_ltI, c_gtI, c_leI, c_geI, d_ltI, d_gtI, d_leI, d_geI, c_isN, c_isntN, kindS, items_tup, true_and, and_true, ln_0, ln_1, ln_2, ln_3, ln_4, ln_5, ln_6, ln_7, ln_8, ln_9, ln_10, ln_11, ln_12, ln_13, ln_14, ln_15, ln_16, ln_17, ln_18, ln_19, ln_20, o_mod (j := 5) (by decide), e1, e2]
    exact q1 _ Same.refl
  · intro h3 s3'
    rw [filterMap_some, show (List.range 5).map (fun k => encM ⟨k == 4, false, 6, (k + 1) % 5⟩) = ringMs.map encM by simp [ringMs, List.map_map]]
    simp -dsimp -failIfUnchanged only [↓wsq_n, ↓wsq_r, ↓wfin_n, ↓wfin_r, ↓ws_nil, ↓ws_cons, ↓ws_expr, ↓ws_set, ↓ws_ret, ↓ws_iff, ↓ws_pass, ↓ws_fb, ↓ws_for, ↓ws_while, ↓ws_wc, ↓ws_wb, ↓wt_tup, ↓wt_nil, ↓wt_cons, ↓wt_sub, ↓wt_fld, ↓we_slot, ↓we_lit, ↓we_op, ↓we_cmp, ↓we_chain, ↓we_nt, ↓we_neg, ↓we_an, ↓we_orr, ↓we_ite, ↓we_tup, ↓we_lst, ↓we_dct, ↓we_sub, ↓we_slc, ↓we_rev, ↓we_fld, ↓we_call, ↓wmk_n, ↓we_mk, ↓we_meth, ↓we_blt, ↓we_bm, ↓we_lc, ↓wes_nil, ↓wes_cons, ↓wes_star, ↓wts_nil, ↓wts_cons, ↓wo_none, ↓wo_some, ↓wi_e, ↓wi_r1, ↓wi_r2, ↓wi_enum, ↓wi_enumS, ↓wi_zip, ↓wnx_n, ↓wnx_r, ↓blq, ↓v_kindS, ↓wb_join, ↓wb_app, ↓wb_pop, ↓wb_ext, ↓wo_lift, ↓x_name, ↓x_lb, ↓x_aug, ↓x_isi, ↓v_isI, ↓v_isB, ↓v_isS, ↓v_isT, ↓v_lenT, ↓v_int, ↓v_max2, ↓v_all, ↓v_any, ↓v_tupL, ↓v_disp0, ↓wk_ok, ↓wo_s, ↓wp_s, ↓wi_i, ↓v_slot0, ↓v_slotS, ↓ss_0, ↓ss_S, ↓sr_n, ↓sr_c, ↓sw_n, ↓sw_c, ↓v_opI, ↓v_add, ↓v_sub, ↓v_tr, ↓v_trO, ↓wf_t, ↓wf_f, ↓v_ix0, ↓v_ix1, ↓v_ix2, ↓v_ix3, ↓v_ix4, ↓v_ix5, ↓v_src, ↓v_perm, ↓wn_0, ↓wn_S, ↓wn_a0, ↓wn_aS, ↓wn_an, ↓dr_n, ↓dr_c, ↓wr_n, ↓wr_c, c_eqI, c_neI, c_ltI, c_gtI, c_leI, c_geI, d_ltI, d_gtI, d_leI, d_geI, c_isN, c_isntN, kindS, items_tup, true_and, and_true, ln_0, ln_1, ln_2, ln_3, ln_4, ln_5, ln_6, ln_7, ln_8, ln_9, ln_10, ln_11, ln_12, ln_13, ln_14, ln_15, ln_16, ln_17, ln_18, ln_19, ln_20, ↓k_Panel]
    refine Panel_made (rs := []) vp_ring (by simp [ringMs, maxLen]) (by simp [maxLen]) fun h4 p1 s4' lp1 g1 => ?_
    simp -dsimp -failIfUnchanged only [↓wsq_n, ↓wsq_r, ↓wfin_n, ↓wfin_r, ↓ws_nil, ↓ws_cons, ↓ws_expr, ↓ws_set, ↓ws_ret, ↓ws_iff, ↓ws_pass, ↓ws_fb, ↓ws_for, ↓ws_while, ↓ws_wc, ↓ws_wb, ↓wt_tup, ↓wt_nil, ↓wt_cons, ↓wt_sub, ↓wt_fld, ↓we_slot, ↓we_lit, ↓we_op, ↓we_cmp, ↓we_chain, ↓we_nt, ↓we_neg, ↓we_an, ↓we_orr, ↓we_ite, ↓we_tup, ↓we_lst, ↓we_dct, ↓we_sub, ↓we_slc, ↓we_rev, ↓we_fld, ↓we_call, ↓wmk_n, ↓we_mk, ↓we_meth, ↓we_blt, ↓we_bm, ↓we_lc, ↓wes_nil, ↓wes_cons, ↓wes_star, ↓wts_nil, ↓wts_cons, ↓wo_none, ↓wo_some, ↓wi_e, ↓wi_r1, ↓wi_r2, ↓wi_enum, ↓wi_enumS, ↓wi_zip, ↓wnx_n, ↓wnx_r, ↓blq, ↓v_kindS, ↓wb_join, ↓wb_app, ↓wb_pop, ↓wb_ext, ↓wo_lift, ↓x_name, ↓x_lb, ↓x_aug, ↓x_isi, ↓v_isI, ↓v_isB, ↓v_isS, ↓v_isT, ↓v_lenT, ↓v_int, ↓v_max2, ↓v_all, ↓v_any, ↓v_tupL, ↓v_disp0, ↓wk_ok, ↓wo_s, ↓wp_s, ↓wi_i, ↓v_slot0, ↓v_slotS, ↓ss_0, ↓ss_S, ↓sr_n, ↓sr_c, ↓sw_n, ↓sw_c, ↓v_opI, ↓v_add, ↓v_sub, ↓v_tr, ↓v_trO, ↓wf_t, ↓wf_f, ↓v_ix0, ↓v_ix1, ↓v_ix2, ↓v_ix3, ↓v_ix4, ↓v_ix5, ↓v_src, ↓v_perm, ↓wn_0, ↓wn_S, ↓wn_a0, ↓wn_aS, ↓wn_an, ↓dr_n, ↓dr_c, ↓wr_n, ↓wr_c, c_eqI, c_neI, c_ltI, c_gtI, c_leI, c_geI, d_ltI, d_gtI, d_leI, d_geI, c_isN, c_isntN, kindS, items_tup, true_and, and_true, ln_0, ln_1, ln_2, ln_3, ln_4, ln_5, ln_6, ln_7, ln_8, ln_9, ln_10, ln_11, ln_12, ln_13, ln_14, ln_15, ln_16, ln_17, ln_18, ln_19, ln_20, m_Panel_till_armed g1]
    refine till_armed_ok (m := 0) (a := 0) g1 vp_ring ⟨_, rfl, by decide⟩ (by decide +kernel) fun h5 r5 s5' t5 => ?_
    cases till_one t5 ring_till
    have sl : ∀ h', slcD h' (.tup (ringMs.map encM)) none (some 4) = some (.tup ((ringMs.map encM).take 4), h') := fun h' => slc_to (i := 4) (by decide)
    have ta : ∀ h', opD .add (.tup ((ringMs.map encM).take 4)) (.tup [.tup [.bl false, .bl false, .int 6, .int 0]]) h' = some (.tup (ring2.map encM), h') := fun h' => by
      rw [o_tadd (by simp [ringMs, maxLen])]
      rfl
    simp -dsimp -failIfUnchanged only [↓wsq_n, ↓wsq_r, ↓wfin_n, ↓wfin_r, ↓ws_nil, ↓ws_cons, ↓ws_expr, ↓ws_set, ↓ws_ret, ↓ws_iff, ↓ws_pass, ↓ws_fb, ↓ws_for, ↓ws_while, ↓ws_wc, ↓ws_wb, ↓wt_tup, ↓wt_nil, ↓wt_cons, ↓wt_sub, ↓wt_fld, ↓we_slot, ↓we_lit, ↓we_op, ↓we_cmp, ↓we_chain, ↓we_nt, ↓we_neg, ↓we_an, ↓we_orr, ↓we_ite, ↓we_tup, ↓we_lst, ↓we_dct, ↓we_sub, ↓we_slc, ↓we_rev, ↓we_fld, ↓we_call, ↓wmk_n, ↓we_mk, ↓we_meth, ↓we_blt, ↓we_bm, ↓we_lc, ↓wes_nil, ↓wes_cons, ↓wes_star, ↓wts_nil, ↓wts_cons, ↓wo_none, ↓wo_some, ↓wi_e, ↓wi_r1, ↓wi_r2, ↓wi_enum, ↓wi_enumS, ↓wi_zip, ↓wnx_n, ↓wnx_r, ↓blq, ↓v_kindS, ↓wb_join, ↓wb_app, ↓wb_pop, ↓wb_ext, ↓wo_lift, ↓x_name, ↓x_lb, ↓x_aug, ↓x_isi, ↓v_isI, ↓v_isB, ↓v_isS, ↓v_isT, ↓v_lenT, ↓v_int, ↓v_max2, ↓v_all, ↓v_any, ↓v_tupL, ↓v_disp0, ↓wk_ok, ↓wo_s, ↓wp_s, ↓wi_i, ↓v_slot0, ↓v_slotS, ↓ss_0, ↓ss_S, ↓sr_n, ↓sr_c, ↓sw_n, ↓sw_c, ↓v_opI, ↓v_add, ↓v_sub, ↓v_tr, ↓v_trO, ↓wf_t, ↓wf_f, ↓v_ix0, ↓v_ix1, ↓v_ix2, ↓v_ix3, ↓v_ix4, ↓v_ix5, ↓v_src, ↓v_perm, ↓wn_0, ↓wn_S, ↓wn_a0, ↓wn_aS, ↓wn_an, ↓dr_n, ↓dr_c, ↓wr_n, ↓wr_c, c_eqI, c_neI, c_ltI, c_gtI, c_leI, c_geI, d_ltI, d_gtI, d_leI, d_geI, c_isN, c_isntN, kindS, items_tup, true_and, and_true, ln_0, ln_1, ln_2, ln_3, ln_4, ln_5, ln_6, ln_7, ln_8, ln_9, ln_10, ln_11, ln_12, ln_13, ln_14, ln_15, ln_16, ln_17, ln_18, ln_19, ln_20, encO, c_neI, show decide (((24 : Nat) : Int) = 24) = true from rfl, Bool.not_true, sl, ta, ↓k_Panel]
    refine Panel_made (rs := []) vp_ring2 (by decide +kernel) (by simp [maxLen]) fun h6 p2 s6' lp2 g2 => ?_
    simp -dsimp -failIfUnchanged only [↓wsq_n, ↓wsq_r, ↓wfin_n, ↓wfin_r, ↓ws_nil, ↓ws_cons, ↓ws_expr, ↓ws_set, ↓ws_ret, ↓ws_iff, ↓ws_pass, ↓ws_fb, ↓ws_for, ↓ws_while, ↓ws_wc, ↓ws_wb, ↓wt_tup, ↓wt_nil, ↓wt_cons, ↓wt_sub, ↓wt_fld, ↓we_slot, ↓we_lit, ↓we_op, ↓we_cmp, ↓we_chain, ↓we_nt, ↓we_neg, ↓we_an, ↓we_orr, ↓we_ite, ↓we_tup, ↓we_lst, ↓we_dct, ↓we_sub, ↓we_slc, ↓we_rev, ↓we_fld, ↓we_call, ↓wmk_n, ↓we_mk, ↓we_meth, ↓we_blt, ↓we_bm, ↓we_lc, ↓wes_nil, ↓wes_cons, ↓wes_star, ↓wts_nil, ↓wts_cons, ↓wo_none, ↓wo_some, ↓wi_e, ↓wi_r1, ↓wi_r2, ↓wi_enum, ↓wi_enumS, ↓wi_zip, ↓wnx_n, ↓wnx_r, ↓blq, ↓v_kindS, ↓wb_join, ↓wb_app, ↓wb_pop, ↓wb_ext, ↓wo_lift, ↓x_name, ↓x_lb, ↓x_aug, ↓x_isi, ↓v_isI, ↓v_isB, ↓v_isS, ↓v_isT, ↓v_lenT, ↓v_int, ↓v_max2, ↓v_all, ↓v_any, ↓v_tupL, ↓v_disp0, ↓wk_ok, ↓wo_s, ↓wp_s, ↓wi_i, ↓v_slot0, ↓v_slotS, ↓ss_0, ↓ss_S, ↓sr_n, ↓sr_c, ↓sw_n, ↓sw_c, ↓v_opI, ↓v_add, ↓v_sub, ↓v_tr, ↓v_trO, ↓wf_t, ↓wf_f, ↓v_ix0, ↓v_ix1, ↓v_ix2, ↓v_ix3, ↓v_ix4, ↓v_ix5, ↓v_src, ↓v_perm, ↓wn_0, ↓wn_S, ↓wn_a0, ↓wn_aS, ↓wn_an, ↓dr_n, ↓dr_c, ↓wr_n, ↓wr_c, c_eqI, c_neI, c_ltI, c_gtI, c_leI, c_geI, d_ltI, d_gtI, d_leI, d_geI, c_isN, c_isntN, kindS, items_tup, true_and, and_true, ln_0, ln_1, ln_2, ln_3, ln_4, ln_5, ln_6, ln_7, ln_8, ln_9, ln_10, ln_11, ln_12, ln_13, ln_14, ln_15, ln_16, ln_17, ln_18, ln_19, ln_20, m_Panel_till_armed g2]
    refine till_armed_ok (m := 0) (a := 5) g2 vp_ring2 ⟨_, rfl, by decide⟩ (by decide +kernel) fun h7 r7 s7' t7 => ?_
    cases till_one t7 ring2_till
    have m5 : ∀ h', opD .mul (.tup [.tup [.int 1, .str "A", .int 0], .tup [.int 0, .str "A", .int 0]]) (.int 5) h' = some (.tup (((wideRs.drop 1).take 10).map encR), h') := fun h' => (mul_tup ⟨by decide, by decide, by simp, by simp⟩).trans rfl
    have m3 : ∀ h', opD .mul (.tup [.tup [.int 2, .str "C", .int 1], .tup [.int 0, .str "B", .int 0]]) (.int 3) h' = some (.tup (((wideRs.drop 12).take 6).map encR), h') := fun h' => (mul_tup ⟨by decide, by decide, by simp, by simp⟩).trans rfl
    have a1 : ∀ h', opD .add (.tup [.tup [.int 0, .str "A", .int 1]]) (.tup (((wideRs.drop 1).take 10).map encR)) h' = some (.tup ((wideRs.take 11).map encR), h') := fun h' => (o_tadd (by simp [wideRs, maxLen])).trans rfl
    have a2 : ∀ h', opD .add (.tup ((wideRs.take 11).map encR)) (.tup [.tup [.int 0, .str "B", .int 2]]) h' = some (.tup ((wideRs.take 12).map encR), h') := fun h' => (o_tadd (by simp [wideRs, maxLen])).trans rfl
    have a3 : ∀ h', opD .add (.tup ((wideRs.take 12).map encR)) (.tup (((wideRs.drop 12).take 6).map encR)) h' = some (.tup ((wideRs.take 18).map encR), h') := fun h' => (o_tadd (by simp [wideRs, maxLen])).trans rfl
    have a4 : ∀ h', opD .add (.tup ((wideRs.take 18).map encR)) (.tup [.tup [.int 1, .str "C", .int 1], .tup [.int 0, .str "C", .int 1]]) h' = some (.tup (wideRs.map encR), h') := fun h' => (o_tadd (by simp [wideRs, maxLen])).trans rfl
    simp -dsimp -failIfUnchanged only [↓wsq_n, ↓wsq_r, ↓wfin_n, ↓wfin_r, ↓ws_nil, ↓ws_cons, ↓ws_expr, ↓ws_set, ↓ws_ret, ↓ws_iff, ↓ws_pass, ↓ws_fb, ↓ws_for, ↓ws_while, ↓ws_wc, ↓ws_wb, ↓wt_tup, ↓wt_nil, ↓wt_cons, ↓wt_sub, ↓wt_fld, ↓we_slot, ↓we_lit, ↓we_op, ↓we_cmp, ↓we_chain, ↓we_nt, ↓we_neg, ↓we_an, ↓we_orr, ↓we_ite, ↓we_tup, ↓we_lst, ↓we_dct, ↓we_sub, ↓we_slc, ↓we_rev, ↓we_fld, ↓we_call, ↓wmk_n, ↓we_mk, ↓we_meth, ↓we_blt, ↓we_bm, ↓we_lc, ↓wes_nil, ↓wes_cons, ↓wes_star, ↓wts_nil, ↓wts_cons, ↓wo_none, ↓wo_some, ↓wi_e, ↓wi_r1, ↓wi_r2, ↓wi_enum, ↓wi_enumS, ↓wi_zip, ↓wnx_n, ↓wnx_r, ↓blq, ↓v_kindS, ↓wb_join, ↓wb_app, ↓wb_pop, ↓wb_ext, ↓wo_lift, ↓x_name, ↓x_lb, ↓x_aug, ↓x_isi, ↓v_isI, ↓v_isB, ↓v_isS, ↓v_isT, ↓v_lenT, ↓v_int, ↓v_max2, ↓v_all, ↓v_any, ↓v_tupL, ↓v_disp0, ↓wk_ok, ↓wo_s, ↓wp_s, ↓wi_i, ↓v_slot0, ↓v_slotS, ↓ss_0, ↓ss_S, ↓sr_n, ↓sr_c, ↓sw_n, ↓sw_c, ↓v_opI, ↓v_add, ↓v_sub, ↓v_tr, ↓v_trO, ↓wf_t, ↓wf_f, ↓v_ix0, ↓v_ix1, ↓v_ix2, ↓v_ix3, ↓v_ix4, ↓v_ix5, ↓v_src, ↓v_perm, ↓wn_0, ↓wn_S, ↓wn_a0, ↓wn_aS, ↓wn_an, ↓dr_n, ↓dr_c, ↓wr_n, ↓wr_c, c_eqI, c_neI, c_ltI, c_gtI, c_leI, c_geI, d_ltI, d_gtI, d_leI, d_geI, c_isN, c_isntN, kindS, items_tup, true_and, and_true, ln_0, ln_1, ln_2, ln_3, ln_4, ln_5, ln_6, ln_7, ln_8, ln_9, ln_10, ln_11, ln_12, ln_13, ln_14, ln_15, ln_16, ln_17, ln_18, ln_19, ln_20, encO, decide_true, Bool.not_true, m5, m3, a1, a2, a3, a4, ↓k_Panel]
    refine Panel_made (ms := wideMs) vp_wide (by decide +kernel) (by decide +kernel) fun h8 p3 s8' lp3 g3 => ?_
    simp -dsimp -failIfUnchanged only [↓wsq_n, ↓wsq_r, ↓wfin_n, ↓wfin_r, ↓ws_nil, ↓ws_cons, ↓ws_expr, ↓ws_set, ↓ws_ret, ↓ws_iff, ↓ws_pass, ↓ws_fb, ↓ws_for, ↓ws_while, ↓ws_wc, ↓ws_wb, ↓wt_tup, ↓wt_nil, ↓wt_cons, ↓wt_sub, ↓wt_fld, ↓we_slot, ↓we_lit, ↓we_op, ↓we_cmp, ↓we_chain, ↓we_nt, ↓we_neg, ↓we_an, ↓we_orr, ↓we_ite, ↓we_tup, ↓we_lst, ↓we_dct, ↓we_sub, ↓we_slc, ↓we_rev, ↓we_fld, ↓we_call, ↓wmk_n, ↓we_mk, ↓we_meth, ↓we_blt, ↓we_bm, ↓we_lc, ↓wes_nil, ↓wes_cons, ↓wes_star, ↓wts_nil, ↓wts_cons, ↓wo_none, ↓wo_some, ↓wi_e, ↓wi_r1, ↓wi_r2, ↓wi_enum, ↓wi_enumS, ↓wi_zip, ↓wnx_n, ↓wnx_r, ↓blq, ↓v_kindS, ↓wb_join, ↓wb_app, ↓wb_pop, ↓wb_ext, ↓wo_lift, ↓x_name, ↓x_lb, ↓x_aug, ↓x_isi, ↓v_isI, ↓v_isB, ↓v_isS, ↓v_isT, ↓v_lenT, ↓v_int, ↓v_max2, ↓v_all, ↓v_any, ↓v_tupL, ↓v_disp0, ↓wk_ok, ↓wo_s, ↓wp_s, ↓wi_i, ↓v_slot0, ↓v_slotS, ↓ss_0, ↓ss_S, ↓sr_n, ↓sr_c, ↓sw_n, ↓sw_c, ↓v_opI, ↓v_add, ↓v_sub, ↓v_tr, ↓v_trO, ↓wf_t, ↓wf_f, ↓v_ix0, ↓v_ix1, ↓v_ix2, ↓v_ix3, ↓v_ix4, ↓v_ix5, ↓v_src, ↓v_perm, ↓wn_0, ↓wn_S, ↓wn_a0, ↓wn_aS, ↓wn_an, ↓dr_n, ↓dr_c, ↓wr_n, ↓wr_c, c_eqI, c_neI, c_ltI, c_gtI, c_leI, c_geI, d_ltI, d_gtI, d_leI, d_geI, c_isN, c_isntN, kindS, items_tup, true_and, and_true, ln_0, ln_1, ln_2, ln_3, ln_4, ln_5, ln_6, ln_7, ln_8, ln_9, ln_10, ln_11, ln_12, ln_13, ln_14, ln_15, ln_16, ln_17, ln_18, ln_19, ln_20, a_Panel_rules g3, List.length_map]
    have g3' := (same_new (c := .lst [.int ((wideRs.length : Nat) : Int)])).get0 g3
    refine w_comp D.str wideS (fun a r acc h' => Same (h8 ++ [.lst [.int ((wideRs.length : Nat) : Int)]]) h' [] ∧ acc = a.map (fun y => encA (goesP wideMs wideRs 0 0 y.cps.toList))) (fun a r acc h1 e z => at_imm (g := D.str) (ys := wideS)) ?_ ?_ ⟨Same.refl, rfl⟩
    · rintro a y r acc h9 ea ⟨s9', rfl⟩
      have g9 := s9'.get0 g3'
      simp -dsimp -failIfUnchanged only [↓wsq_n, ↓wsq_r, ↓wfin_n, ↓wfin_r, ↓ws_nil, ↓ws_cons, ↓ws_expr, ↓ws_set, ↓ws_ret, ↓ws_iff, ↓ws_pass, ↓ws_fb, ↓ws_for, ↓ws_while, ↓ws_wc, ↓ws_wb, ↓wt_tup, ↓wt_nil, ↓wt_cons, ↓wt_sub, ↓wt_fld, ↓we_slot, ↓we_lit, ↓we_op, ↓we_cmp, ↓we_chain, ↓we_nt, ↓we_neg, ↓we_an, ↓we_orr, ↓we_ite, ↓we_tup, ↓we_lst, ↓we_dct, ↓we_sub, ↓we_slc, ↓we_rev, ↓we_fld, ↓we_call, ↓wmk_n, ↓we_mk, ↓we_meth, ↓we_blt, ↓we_bm, ↓we_lc, ↓wes_nil, ↓wes_cons, ↓wes_star, ↓wts_nil, ↓wts_cons, ↓wo_none, ↓wo_some, ↓wi_e, ↓wi_r1, ↓wi_r2, ↓wi_enum, ↓wi_enumS, ↓wi_zip, ↓wnx_n, ↓wnx_r, ↓blq, ↓v_kindS, ↓wb_join, ↓wb_app, ↓wb_pop, ↓wb_ext, ↓wo_lift, ↓x_name, ↓x_lb, ↓x_aug, ↓x_isi, ↓v_isI, ↓v_isB, ↓v_isS, ↓v_isT, ↓v_lenT, ↓v_int, ↓v_max2, ↓v_all, ↓v_any, ↓v_tupL, ↓v_disp0, ↓wk_ok, ↓wo_s, ↓wp_s, ↓wi_i, ↓v_slot0, ↓v_slotS, ↓ss_0, ↓ss_S, ↓sr_n, ↓sr_c, ↓sw_n, ↓sw_c, ↓v_opI, ↓v_add, ↓v_sub, ↓v_tr, ↓v_trO, ↓wf_t, ↓wf_f, ↓v_ix0, ↓v_ix1, ↓v_ix2, ↓v_ix3, ↓v_ix4, ↓v_ix5, ↓v_src, ↓v_perm, ↓wn_0, ↓wn_S, ↓wn_a0, ↓wn_aS, ↓wn_an, ↓dr_n, ↓dr_c, ↓wr_n, ↓wr_c, c_eqI, c_neI, c_ltI, c_gtI, c_leI, c_geI, d_ltI, d_gtI, d_leI, d_geI, c_isN, c_isntN, kindS, items_tup, true_and, and_true, ln_0, ln_1, ln_2, ln_3, ln_4, ln_5, ln_6, ln_7, ln_8, ln_9, ln_10, ln_11, ln_12, ln_13, ln_14, ln_15, ln_16, ln_17, ln_18, ln_19, ln_20, m_Panel_goes g9]
      refine goes_ok (m := 0) (a := 0) g9 (by decide) ?_
      simp -dsimp -failIfUnchanged only [↓wsq_n, ↓wsq_r, ↓wfin_n, ↓wfin_r, ↓ws_nil, ↓ws_cons, ↓ws_expr, ↓ws_set, ↓ws_ret, ↓ws_iff, ↓ws_pass, ↓ws_fb, ↓ws_for, ↓ws_while, ↓ws_wc, ↓ws_wb, ↓wt_tup, ↓wt_nil, ↓wt_cons, ↓wt_sub, ↓wt_fld, ↓we_slot, ↓we_lit, ↓we_op, ↓we_cmp, ↓we_chain, ↓we_nt, ↓we_neg, ↓we_an, ↓we_orr, ↓we_ite, ↓we_tup, ↓we_lst, ↓we_dct, ↓we_sub, ↓we_slc, ↓we_rev, ↓we_fld, ↓we_call, ↓wmk_n, ↓we_mk, ↓we_meth, ↓we_blt, ↓we_bm, ↓we_lc, ↓wes_nil, ↓wes_cons, ↓wes_star, ↓wts_nil, ↓wts_cons, ↓wo_none, ↓wo_some, ↓wi_e, ↓wi_r1, ↓wi_r2, ↓wi_enum, ↓wi_enumS, ↓wi_zip, ↓wnx_n, ↓wnx_r, ↓blq, ↓v_kindS, ↓wb_join, ↓wb_app, ↓wb_pop, ↓wb_ext, ↓wo_lift, ↓x_name, ↓x_lb, ↓x_aug, ↓x_isi, ↓v_isI, ↓v_isB, ↓v_isS, ↓v_isT, ↓v_lenT, ↓v_int, ↓v_max2, ↓v_all, ↓v_any, ↓v_tupL, ↓v_disp0, ↓wk_ok, ↓wo_s, ↓wp_s, ↓wi_i, ↓v_slot0, ↓v_slotS, ↓ss_0, ↓ss_S, ↓sr_n, ↓sr_c, ↓sw_n, ↓sw_c, ↓v_opI, ↓v_add, ↓v_sub, ↓v_tr, ↓v_trO, ↓wf_t, ↓wf_f, ↓v_ix0, ↓v_ix1, ↓v_ix2, ↓v_ix3, ↓v_ix4, ↓v_ix5, ↓v_src, ↓v_perm, ↓wn_0, ↓wn_S, ↓wn_a0, ↓wn_aS, ↓wn_an, ↓dr_n, ↓dr_c, ↓wr_n, ↓wr_c, c_eqI, c_neI, c_ltI, c_gtI, c_leI, c_geI, d_ltI, d_gtI, d_leI, d_geI, c_isN, c_isntN, kindS, items_tup, true_and, and_true, ln_0, ln_1, ln_2, ln_3, ln_4, ln_5, ln_6, ln_7, ln_8, ln_9, ln_10, ln_11, ln_12, ln_13, ln_14, ln_15, ln_16, ln_17, ln_18, ln_19, ln_20, no_s]
      exact ⟨s9', by simp⟩
    · rintro acc h9 ⟨s9', rfl⟩
      refine ⟨by simp [maxLen, wideS], ?_⟩
      rw [show wideS.map (fun y => encA (goesP wideMs wideRs 0 0 y.cps.toList)) = wideA from rfl]
      have gw := s9'.get0 (new_get (h := h8) (c := .lst [.int ((wideRs.length : Nat) : Int)]))
      have ad := add_lst (same_new (c := .lst wideA) |>.get0 gw) new_get (by simp [maxLen, wideA, wideS])
      have ga := new_get (h := h9 ++ [.lst wideA]) (c := .lst ([.int ((wideRs.length : Nat) : Int)] ++ wideA))
      simp -dsimp -failIfUnchanged only [↓wsq_n, ↓wsq_r, ↓wfin_n, ↓wfin_r, ↓ws_nil, ↓ws_cons, ↓ws_expr, ↓ws_set, ↓ws_ret, ↓ws_iff, ↓ws_pass, ↓ws_fb, ↓ws_for, ↓ws_while, ↓ws_wc, ↓ws_wb, ↓wt_tup, ↓wt_nil, ↓wt_cons, ↓wt_sub, ↓wt_fld, ↓we_slot, ↓we_lit, ↓we_op, ↓we_cmp, ↓we_chain, ↓we_nt, ↓we_neg, ↓we_an, ↓we_orr, ↓we_ite, ↓we_tup, ↓we_lst, ↓we_dct, ↓we_sub, ↓we_slc, ↓we_rev, ↓we_fld, ↓we_call, ↓wmk_n, ↓we_mk, ↓we_meth, ↓we_blt, ↓we_bm, ↓we_lc, ↓wes_nil, ↓wes_cons, ↓wes_star, ↓wts_nil, ↓wts_cons, ↓wo_none, ↓wo_some, ↓wi_e, ↓wi_r1, ↓wi_r2, ↓wi_enum, ↓wi_enumS, ↓wi_zip, ↓wnx_n, ↓wnx_r, ↓blq, ↓v_kindS, ↓wb_join, ↓wb_app, ↓wb_pop, ↓wb_ext, ↓wo_lift, ↓x_name, ↓x_lb, ↓x_aug, ↓x_isi, ↓v_isI, ↓v_isB, ↓v_isS, ↓v_isT, ↓v_lenT, ↓v_int, ↓v_max2, ↓v_all, ↓v_any, ↓v_tupL, ↓v_disp0, ↓wk_ok, ↓wo_s, ↓wp_s, ↓wi_i, ↓v_slot0, ↓v_slotS, ↓ss_0, ↓ss_S, ↓sr_n, ↓sr_c, ↓sw_n, ↓sw_c, ↓v_opI, ↓v_add, ↓v_sub, ↓v_tr, ↓v_trO, ↓wf_t, ↓wf_f, ↓v_ix0, ↓v_ix1, ↓v_ix2, ↓v_ix3, ↓v_ix4, ↓v_ix5, ↓v_src, ↓v_perm, ↓wn_0, ↓wn_S, ↓wn_a0, ↓wn_aS, ↓wn_an, ↓dr_n, ↓dr_c, ↓wr_n, ↓wr_c, c_eqI, c_neI, c_ltI, c_gtI, c_leI, c_geI, d_ltI, d_gtI, d_leI, d_geI, c_isN, c_isntN, kindS, items_tup, true_and, and_true, ln_0, ln_1, ln_2, ln_3, ln_4, ln_5, ln_6, ln_7, ln_8, ln_9, ln_10, ln_11, ln_12, ln_13, ln_14, ln_15, ln_16, ln_17, ln_18, ln_19, ln_20, ad]
      generalize h9 ++ [.lst wideA] ++ [.lst ([.int ((wideRs.length : Nat) : Int)] ++ wideA)] = h10 at ga ⊢
      generalize (h9 ++ [C.lst wideA]).length = c10 at ga ⊢
      have ne1 := c_neC (P := P) (call := fnAt P (k + 19)) (lst_get ((same_new (c := .lst [.int 20, .tup [.int 1, .int 0], .tup [.int 2, .int 0], .tup [.int 1, .int 0], .tup [.int 2, .int 0], .tup [.int 1, .int 0], .tup [.int 0, .int 0]])).get0 ga)) lst_new (by decide +kernel) (by decide +kernel)
      rw [show peqs ([.int ((wideRs.length : Nat) : Int)] ++ wideA) [.int 20, .tup [.int 1, .int 0], .tup [.int 2, .int 0], .tup [.int 1, .int 0], .tup [.int 2, .int 0], .tup [.int 1, .int 0], .tup [.int 0, .int 0]] = true by decide +kernel] at ne1
      simp -dsimp -failIfUnchanged only [↓wsq_n, ↓wsq_r, ↓wfin_n, ↓wfin_r, ↓ws_nil, ↓ws_cons, ↓ws_expr, ↓ws_set, ↓ws_ret, ↓ws_iff, ↓ws_pass, ↓ws_fb, ↓ws_for, ↓ws_while, ↓ws_wc, ↓ws_wb, ↓wt_tup, ↓wt_nil, ↓wt_cons, ↓wt_sub, ↓wt_fld, ↓we_slot, ↓we_lit, ↓we_op, ↓we_cmp, ↓we_chain, ↓we_nt, ↓we_neg, ↓we_an, ↓we_orr, ↓we_ite, ↓we_tup, ↓we_lst, ↓we_dct, ↓we_sub, ↓we_slc, ↓we_rev, ↓we_fld, ↓we_call, ↓wmk_n, ↓we_mk, ↓we_meth, ↓we_blt, ↓we_bm, ↓we_lc, ↓wes_nil, ↓wes_cons, ↓wes_star, ↓wts_nil, ↓wts_cons, ↓wo_none, ↓wo_some, ↓wi_e, ↓wi_r1, ↓wi_r2, ↓wi_enum, ↓wi_enumS, ↓wi_zip, ↓wnx_n, ↓wnx_r, ↓blq, ↓v_kindS, ↓wb_join, ↓wb_app, ↓wb_pop, ↓wb_ext, ↓wo_lift, ↓x_name, ↓x_lb, ↓x_aug, ↓x_isi, ↓v_isI, ↓v_isB, ↓v_isS, ↓v_isT, ↓v_lenT, ↓v_int, ↓v_max2, ↓v_all, ↓v_any, ↓v_tupL, ↓v_disp0, ↓wk_ok, ↓wo_s, ↓wp_s, ↓wi_i, ↓v_slot0, ↓v_slotS, ↓ss_0, ↓ss_S, ↓sr_n, ↓sr_c, ↓sw_n, ↓sw_c, ↓v_opI, ↓v_add, ↓v_sub, ↓v_tr, ↓v_trO, ↓wf_t, ↓wf_f, ↓v_ix0, ↓v_ix1, ↓v_ix2, ↓v_ix3, ↓v_ix4, ↓v_ix5, ↓v_src, ↓v_perm, ↓wn_0, ↓wn_S, ↓wn_a0, ↓wn_aS, ↓wn_an, ↓dr_n, ↓dr_c, ↓wr_n, ↓wr_c, c_eqI, c_neI, c_ltI, c_gtI, c_leI, c_geI, d_ltI, d_gtI, d_leI, d_geI, c_isN, c_isntN, kindS, items_tup, true_and, and_true, ln_0, ln_1, ln_2, ln_3, ln_4, ln_5, ln_6, ln_7, ln_8, ln_9, ln_10, ln_11, ln_12, ln_13, ln_14, ln_15, ln_16, ln_17, ln_18, ln_19, ln_20, ne1, Bool.not_true, ↓k_Panel]
      refine Panel_made (ms := twoMs) (rs := twoRs) vp_two (by decide +kernel) (by decide +kernel) fun h11 p4 s11' lp4 g4 => ?_
      simp -dsimp -failIfUnchanged only [↓wsq_n, ↓wsq_r, ↓wfin_n, ↓wfin_r, ↓ws_nil, ↓ws_cons, ↓ws_expr, ↓ws_set, ↓ws_ret, ↓ws_iff, ↓ws_pass, ↓ws_fb, ↓ws_for, ↓ws_while, ↓ws_wc, ↓ws_wb, ↓wt_tup, ↓wt_nil, ↓wt_cons, ↓wt_sub, ↓wt_fld, ↓we_slot, ↓we_lit, ↓we_op, ↓we_cmp, ↓we_chain, ↓we_nt, ↓we_neg, ↓we_an, ↓we_orr, ↓we_ite, ↓we_tup, ↓we_lst, ↓we_dct, ↓we_sub, ↓we_slc, ↓we_rev, ↓we_fld, ↓we_call, ↓wmk_n, ↓we_mk, ↓we_meth, ↓we_blt, ↓we_bm, ↓we_lc, ↓wes_nil, ↓wes_cons, ↓wes_star, ↓wts_nil, ↓wts_cons, ↓wo_none, ↓wo_some, ↓wi_e, ↓wi_r1, ↓wi_r2, ↓wi_enum, ↓wi_enumS, ↓wi_zip, ↓wnx_n, ↓wnx_r, ↓blq, ↓v_kindS, ↓wb_join, ↓wb_app, ↓wb_pop, ↓wb_ext, ↓wo_lift, ↓x_name, ↓x_lb, ↓x_aug, ↓x_isi, ↓v_isI, ↓v_isB, ↓v_isS, ↓v_isT, ↓v_lenT, ↓v_int, ↓v_max2, ↓v_all, ↓v_any, ↓v_tupL, ↓v_disp0, ↓wk_ok, ↓wo_s, ↓wp_s, ↓wi_i, ↓v_slot0, ↓v_slotS, ↓ss_0, ↓ss_S, ↓sr_n, ↓sr_c, ↓sw_n, ↓sw_c, ↓v_opI, ↓v_add, ↓v_sub, ↓v_tr, ↓v_trO, ↓wf_t, ↓wf_f, ↓v_ix0, ↓v_ix1, ↓v_ix2, ↓v_ix3, ↓v_ix4, ↓v_ix5, ↓v_src, ↓v_perm, ↓wn_0, ↓wn_S, ↓wn_a0, ↓wn_aS, ↓wn_an, ↓dr_n, ↓dr_c, ↓wr_n, ↓wr_c, c_eqI, c_neI, c_ltI, c_gtI, c_leI, c_geI, d_ltI, d_gtI, d_leI, d_geI, c_isN, c_isntN, kindS, items_tup, true_and, and_true, ln_0, ln_1, ln_2, ln_3, ln_4, ln_5, ln_6, ln_7, ln_8, ln_9, ln_10, ln_11, ln_12, ln_13, ln_14, ln_15, ln_16, ln_17, ln_18, ln_19, ln_20, m_Panel_goes g4]
      refine goes_ok (m := 0) (a := 0) g4 (by decide) ?_
      simp -dsimp -failIfUnchanged only [↓wsq_n, ↓wsq_r, ↓wfin_n, ↓wfin_r, ↓ws_nil, ↓ws_cons, ↓ws_expr, ↓ws_set, ↓ws_ret, ↓ws_iff, ↓ws_pass, ↓ws_fb, ↓ws_for, ↓ws_while, ↓ws_wc, ↓ws_wb, ↓wt_tup, ↓wt_nil, ↓wt_cons, ↓wt_sub, ↓wt_fld, ↓we_slot, ↓we_lit, ↓we_op, ↓we_cmp, ↓we_chain, ↓we_nt, ↓we_neg, ↓we_an, ↓we_orr, ↓we_ite, ↓we_tup, ↓we_lst, ↓we_dct, ↓we_sub, ↓we_slc, ↓we_rev, ↓we_fld, ↓we_call, ↓wmk_n, ↓we_mk, ↓we_meth, ↓we_blt, ↓we_bm, ↓we_lc, ↓wes_nil, ↓wes_cons, ↓wes_star, ↓wts_nil, ↓wts_cons, ↓wo_none, ↓wo_some, ↓wi_e, ↓wi_r1, ↓wi_r2, ↓wi_enum, ↓wi_enumS, ↓wi_zip, ↓wnx_n, ↓wnx_r, ↓blq, ↓v_kindS, ↓wb_join, ↓wb_app, ↓wb_pop, ↓wb_ext, ↓wo_lift, ↓x_name, ↓x_lb, ↓x_aug, ↓x_isi, ↓v_isI, ↓v_isB, ↓v_isS, ↓v_isT, ↓v_lenT, ↓v_int, ↓v_max2, ↓v_all, ↓v_any, ↓v_tupL, ↓v_disp0, ↓wk_ok, ↓wo_s, ↓wp_s, ↓wi_i, ↓v_slot0, ↓v_slotS, ↓ss_0, ↓ss_S, ↓sr_n, ↓sr_c, ↓sw_n, ↓sw_c, ↓v_opI, ↓v_add, ↓v_sub, ↓v_tr, ↓v_trO, ↓wf_t, ↓wf_f, ↓v_ix0, ↓v_ix1, ↓v_ix2, ↓v_ix3, ↓v_ix4, ↓v_ix5, ↓v_src, ↓v_perm, ↓wn_0, ↓wn_S, ↓wn_a0, ↓wn_aS, ↓wn_an, ↓dr_n, ↓dr_c, ↓wr_n, ↓wr_c, c_eqI, c_neI, c_ltI, c_gtI, c_leI, c_geI, d_ltI, d_gtI, d_leI, d_geI, c_isN, c_isntN, kindS, items_tup, true_and, and_true, ln_0, ln_1, ln_2, ln_3, ln_4, ln_5, ln_6, ln_7, ln_8, ln_9, ln_10, ln_11, ln_12, ln_13, ln_14, ln_15, ln_16, ln_17, ln_18, ln_19, ln_20, m_Panel_goes g4]
      refine goes_ok (m := 0) (a := 0) g4 (by decide) ?_
      simp -dsimp -failIfUnchanged only [↓wsq_n, ↓wsq_r, ↓wfin_n, ↓wfin_r, ↓ws_nil, ↓ws_cons, ↓ws_expr, ↓ws_set, ↓ws_ret, ↓ws_iff, ↓ws_pass, ↓ws_fb, ↓ws_for, ↓ws_while, ↓ws_wc, ↓ws_wb, ↓wt_tup, ↓wt_nil, ↓wt_cons, ↓wt_sub, ↓wt_fld, ↓we_slot, ↓we_lit, ↓we_op, ↓we_cmp, ↓we_chain, ↓we_nt, ↓we_neg, ↓we_an, ↓we_orr, ↓we_ite, ↓we_tup, ↓we_lst, ↓we_dct, ↓we_sub, ↓we_slc, ↓we_rev, ↓we_fld, ↓we_call, ↓wmk_n, ↓we_mk, ↓we_meth, ↓we_blt, ↓we_bm, ↓we_lc, ↓wes_nil, ↓wes_cons, ↓wes_star, ↓wts_nil, ↓wts_cons, ↓wo_none, ↓wo_some, ↓wi_e, ↓wi_r1, ↓wi_r2, ↓wi_enum, ↓wi_enumS, ↓wi_zip, ↓wnx_n, ↓wnx_r, ↓blq, ↓v_kindS, ↓wb_join, ↓wb_app, ↓wb_pop, ↓wb_ext, ↓wo_lift, ↓x_name, ↓x_lb, ↓x_aug, ↓x_isi, ↓v_isI, ↓v_isB, ↓v_isS, ↓v_isT, ↓v_lenT, ↓v_int, ↓v_max2, ↓v_all, ↓v_any, ↓v_tupL, ↓v_disp0, ↓wk_ok, ↓wo_s, ↓wp_s, ↓wi_i, ↓v_slot0, ↓v_slotS, ↓ss_0, ↓ss_S, ↓sr_n, ↓sr_c, ↓sw_n, ↓sw_c, ↓v_opI, ↓v_add, ↓v_sub, ↓v_tr, ↓v_trO, ↓wf_t, ↓wf_f, ↓v_ix0, ↓v_ix1, ↓v_ix2, ↓v_ix3, ↓v_ix4, ↓v_ix5, ↓v_src, ↓v_perm, ↓wn_0, ↓wn_S, ↓wn_a0, ↓wn_aS, ↓wn_an, ↓dr_n, ↓dr_c, ↓wr_n, ↓wr_c, c_eqI, c_neI, c_ltI, c_gtI, c_leI, c_geI, d_ltI, d_gtI, d_leI, d_geI, c_isN, c_isntN, kindS, items_tup, true_and, and_true, ln_0, ln_1, ln_2, ln_3, ln_4, ln_5, ln_6, ln_7, ln_8, ln_9, ln_10, ln_11, ln_12, ln_13, ln_14, ln_15, ln_16, ln_17, ln_18, ln_19, ln_20, m_Panel_goes g4]
      refine goes_ok (m := 1) (a := 1) g4 (by decide) ?_
      simp -dsimp -failIfUnchanged only [↓wsq_n, ↓wsq_r, ↓wfin_n, ↓wfin_r, ↓ws_nil, ↓ws_cons, ↓ws_expr, ↓ws_set, ↓ws_ret, ↓ws_iff, ↓ws_pass, ↓ws_fb, ↓ws_for, ↓ws_while, ↓ws_wc, ↓ws_wb, ↓wt_tup, ↓wt_nil, ↓wt_cons, ↓wt_sub, ↓wt_fld, ↓we_slot, ↓we_lit, ↓we_op, ↓we_cmp, ↓we_chain, ↓we_nt, ↓we_neg, ↓we_an, ↓we_orr, ↓we_ite, ↓we_tup, ↓we_lst, ↓we_dct, ↓we_sub, ↓we_slc, ↓we_rev, ↓we_fld, ↓we_call, ↓wmk_n, ↓we_mk, ↓we_meth, ↓we_blt, ↓we_bm, ↓we_lc, ↓wes_nil, ↓wes_cons, ↓wes_star, ↓wts_nil, ↓wts_cons, ↓wo_none, ↓wo_some, ↓wi_e, ↓wi_r1, ↓wi_r2, ↓wi_enum, ↓wi_enumS, ↓wi_zip, ↓wnx_n, ↓wnx_r, ↓blq, ↓v_kindS, ↓wb_join, ↓wb_app, ↓wb_pop, ↓wb_ext, ↓wo_lift, ↓x_name, ↓x_lb, ↓x_aug, ↓x_isi, ↓v_isI, ↓v_isB, ↓v_isS, ↓v_isT, ↓v_lenT, ↓v_int, ↓v_max2, ↓v_all, ↓v_any, ↓v_tupL, ↓v_disp0, ↓wk_ok, ↓wo_s, ↓wp_s, ↓wi_i, ↓v_slot0, ↓v_slotS, ↓ss_0, ↓ss_S, ↓sr_n, ↓sr_c, ↓sw_n, ↓sw_c, ↓v_opI, ↓v_add, ↓v_sub, ↓v_tr, ↓v_trO, ↓wf_t, ↓wf_f, ↓v_ix0, ↓v_ix1, ↓v_ix2, ↓v_ix3, ↓v_ix4, ↓v_ix5, ↓v_src, ↓v_perm, ↓wn_0, ↓wn_S, ↓wn_a0, ↓wn_aS, ↓wn_an, ↓dr_n, ↓dr_c, ↓wr_n, ↓wr_c, c_eqI, c_neI, c_ltI, c_gtI, c_leI, c_geI, d_ltI, d_gtI, d_leI, d_geI, c_isN, c_isntN, kindS, items_tup, true_and, and_true, ln_0, ln_1, ln_2, ln_3, ln_4, ln_5, ln_6, ln_7, ln_8, ln_9, ln_10, ln_11, ln_12, ln_13, ln_14, ln_15, ln_16, ln_17, ln_18, ln_19, ln_20, m_Panel_goes g4]
      refine goes_ok (m := 1) (a := 1) g4 (by decide) ?_
      simp -dsimp -failIfUnchanged only [↓wsq_n, ↓wsq_r, ↓wfin_n, ↓wfin_r, ↓ws_nil, ↓ws_cons, ↓ws_expr, ↓ws_set, ↓ws_ret, ↓ws_iff, ↓ws_pass, ↓ws_fb, ↓ws_for, ↓ws_while, ↓ws_wc, ↓ws_wb, ↓wt_tup, ↓wt_nil, ↓wt_cons, ↓wt_sub, ↓wt_fld, ↓we_slot, ↓we_lit, ↓we_op, ↓we_cmp, ↓we_chain, ↓we_nt, ↓we_neg, ↓we_an, ↓we_orr, ↓we_ite, ↓we_tup, ↓we_lst, ↓we_dct, ↓we_sub, ↓we_slc, ↓we_rev, ↓we_fld, ↓we_call, ↓wmk_n, ↓we_mk, ↓we_meth, ↓we_blt, ↓we_bm, ↓we_lc, ↓wes_nil, ↓wes_cons, ↓wes_star, ↓wts_nil, ↓wts_cons, ↓wo_none, ↓wo_some, ↓wi_e, ↓wi_r1, ↓wi_r2, ↓wi_enum, ↓wi_enumS, ↓wi_zip, ↓wnx_n, ↓wnx_r, ↓blq, ↓v_kindS, ↓wb_join, ↓wb_app, ↓wb_pop, ↓wb_ext, ↓wo_lift, ↓x_name, ↓x_lb, ↓x_aug, ↓x_isi, ↓v_isI, ↓v_isB, ↓v_isS, ↓v_isT, ↓v_lenT, ↓v_int, ↓v_max2, ↓v_all, ↓v_any, ↓v_tupL, ↓v_disp0, ↓wk_ok, ↓wo_s, ↓wp_s, ↓wi_i, ↓v_slot0, ↓v_slotS, ↓ss_0, ↓ss_S, ↓sr_n, ↓sr_c, ↓sw_n, ↓sw_c, ↓v_opI, ↓v_add, ↓v_sub, ↓v_tr, ↓v_trO, ↓wf_t, ↓wf_f, ↓v_ix0, ↓v_ix1, ↓v_ix2, ↓v_ix3, ↓v_ix4, ↓v_ix5, ↓v_src, ↓v_perm, ↓wn_0, ↓wn_S, ↓wn_a0, ↓wn_aS, ↓wn_an, ↓dr_n, ↓dr_c, ↓wr_n, ↓wr_c, c_eqI, c_neI, c_ltI, c_gtI, c_leI, c_geI, d_ltI, d_gtI, d_leI, d_geI, c_isN, c_isntN, kindS, items_tup, true_and, and_true, ln_0, ln_1, ln_2, ln_3, ln_4, ln_5, ln_6, ln_7, ln_8, ln_9, ln_10, ln_11, ln_12, ln_13, ln_14, ln_15, ln_16, ln_17, ln_18, ln_19, ln_20, m_Panel_goes g4]
      refine goes_ok (m := 1) (a := 0) g4 (by decide) ?_
      simp -dsimp -failIfUnchanged only [↓wsq_n, ↓wsq_r, ↓wfin_n, ↓wfin_r, ↓ws_nil, ↓ws_cons, ↓ws_expr, ↓ws_set, ↓ws_ret, ↓ws_iff, ↓ws_pass, ↓ws_fb, ↓ws_for, ↓ws_while, ↓ws_wc, ↓ws_wb, ↓wt_tup, ↓wt_nil, ↓wt_cons, ↓wt_sub, ↓wt_fld, ↓we_slot, ↓we_lit, ↓we_op, ↓we_cmp, ↓we_chain, ↓we_nt, ↓we_neg, ↓we_an, ↓we_orr, ↓we_ite, ↓we_tup, ↓we_lst, ↓we_dct, ↓we_sub, ↓we_slc, ↓we_rev, ↓we_fld, ↓we_call, ↓wmk_n, ↓we_mk, ↓we_meth, ↓we_blt, ↓we_bm, ↓we_lc, ↓wes_nil, ↓wes_cons, ↓wes_star, ↓wts_nil, ↓wts_cons, ↓wo_none, ↓wo_some, ↓wi_e, ↓wi_r1, ↓wi_r2, ↓wi_enum, ↓wi_enumS, ↓wi_zip, ↓wnx_n, ↓wnx_r, ↓blq, ↓v_kindS, ↓wb_join, ↓wb_app, ↓wb_pop, ↓wb_ext, ↓wo_lift, ↓x_name, ↓x_lb, ↓x_aug, ↓x_isi, ↓v_isI, ↓v_isB, ↓v_isS, ↓v_isT, ↓v_lenT, ↓v_int, ↓v_max2, ↓v_all, ↓v_any, ↓v_tupL, ↓v_disp0, ↓wk_ok, ↓wo_s, ↓wp_s, ↓wi_i, ↓v_slot0, ↓v_slotS, ↓ss_0, ↓ss_S, ↓sr_n, ↓sr_c, ↓sw_n, ↓sw_c, ↓v_opI, ↓v_add, ↓v_sub, ↓v_tr, ↓v_trO, ↓wf_t, ↓wf_f, ↓v_ix0, ↓v_ix1, ↓v_ix2, ↓v_ix3, ↓v_ix4, ↓v_ix5, ↓v_src, ↓v_perm, ↓wn_0, ↓wn_S, ↓wn_a0, ↓wn_aS, ↓wn_an, ↓dr_n, ↓dr_c, ↓wr_n, ↓wr_c, c_eqI, c_neI, c_ltI, c_gtI, c_leI, c_geI, d_ltI, d_gtI, d_leI, d_geI, c_isN, c_isntN, kindS, items_tup, true_and, and_true, ln_0, ln_1, ln_2, ln_3, ln_4, ln_5, ln_6, ln_7, ln_8, ln_9, ln_10, ln_11, ln_12, ln_13, ln_14, ln_15, ln_16, ln_17, ln_18, ln_19, ln_20]
      have gl := new_get (h := h11) (c := .lst [encA (goesP twoMs twoRs 0 0 ("AB" : Str).cps.toList), encA (goesP twoMs twoRs 0 0 ("A" : Str).cps.toList), encA (goesP twoMs twoRs 1 1 ("A" : Str).cps.toList), encA (goesP twoMs twoRs 1 1 ("" : Str).cps.toList), encA (goesP twoMs twoRs 1 0 ("B" : Str).cps.toList)])
      have eq1 := c_eqC (P := P) (call := fnAt P (k + 19)) (lst_get ((same_new (c := .lst [.tup [.int 1, .int 0], .tup [.int 0, .int 0], .tup [.int 1, .int 0], .tup [.int 0, .int 0], .tup [.int 1, .int 1]])).get0 gl)) lst_new (by decide +kernel) (by decide +kernel)
      rw [show peqs [encA (goesP twoMs twoRs 0 0 ("AB" : Str).cps.toList), encA (goesP twoMs twoRs 0 0 ("A" : Str).cps.toList), encA (goesP twoMs twoRs 1 1 ("A" : Str).cps.toList), encA (goesP twoMs twoRs 1 1 ("" : Str).cps.toList), encA (goesP twoMs twoRs 1 0 ("B" : Str).cps.toList)] [.tup [.int 1, .int 0], .tup [.int 0, .int 0], .tup [.int 1, .int 0], .tup [.int 0, .int 0], .tup [.int 1, .int 1]] = true by decide +kernel] at eq1
      simp -dsimp -failIfUnchanged only [↓wsq_n, ↓wsq_r, ↓wfin_n, ↓wfin_r, ↓ws_nil, ↓ws_cons, ↓ws_expr, ↓ws_set, ↓ws_ret, ↓ws_iff, ↓ws_pass, ↓ws_fb, ↓ws_for, ↓ws_while, ↓ws_wc, ↓ws_wb, ↓wt_tup, ↓wt_nil, ↓wt_cons, ↓wt_sub, ↓wt_fld, ↓we_slot, ↓we_lit, ↓we_op, ↓we_cmp, ↓we_chain, ↓we_nt, ↓we_neg, ↓we_an, ↓we_orr, ↓we_ite, ↓we_tup, ↓we_lst, ↓we_dct, ↓we_sub, ↓we_slc, ↓we_rev, ↓we_fld, ↓we_call, ↓wmk_n, ↓we_mk, ↓we_meth, ↓we_blt, ↓we_bm, ↓we_lc, ↓wes_nil, ↓wes_cons, ↓wes_star, ↓wts_nil, ↓wts_cons, ↓wo_none, ↓wo_some, ↓wi_e, ↓wi_r1, ↓wi_r2, ↓wi_enum, ↓wi_enumS, ↓wi_zip, ↓wnx_n, ↓wnx_r, ↓blq, ↓v_kindS, ↓wb_join, ↓wb_app, ↓wb_pop, ↓wb_ext, ↓wo_lift, ↓x_name, ↓x_lb, ↓x_aug, ↓x_isi, ↓v_isI, ↓v_isB, ↓v_isS, ↓v_isT, ↓v_lenT, ↓v_int, ↓v_max2, ↓v_all, ↓v_any, ↓v_tupL, ↓v_disp0, ↓wk_ok, ↓wo_s, ↓wp_s, ↓wi_i, ↓v_slot0, ↓v_slotS, ↓ss_0, ↓ss_S, ↓sr_n, ↓sr_c, ↓sw_n, ↓sw_c, ↓v_opI, ↓v_add, ↓v_sub, ↓v_tr, ↓v_trO, ↓wf_t, ↓wf_f, ↓v_ix0, ↓v_ix1, ↓v_ix2, ↓v_ix3, ↓v_ix4, ↓v_ix5, ↓v_src, ↓v_perm, ↓wn_0, ↓wn_S, ↓wn_a0, ↓wn_aS, ↓wn_an, ↓dr_n, ↓dr_c, ↓wr_n, ↓wr_c, c_eqI, c_neI, c_ltI, c_gtI, c_leI, c_geI, d_ltI, d_gtI, d_leI, d_geI, c_isN, c_isntN, kindS, items_tup, true_and, and_true, ln_0, ln_1, ln_2, ln_3, ln_4, ln_5, ln_6, ln_7, ln_8, ln_9, ln_10, ln_11, ln_12, ln_13, ln_14, ln_15, ln_16, ln_17, ln_18, ln_19, ln_20, eq1]
      exact q _
end
end Lw
end
section
set_option autoImplicit false
set_option Elab.async false
set_option linter.all false
set_option maxRecDepth 100000
set_option maxHeartbeats 0
namespace Lw
open PySem PySem.W PySem.Calls PyProof.Rows Q
abbrev R : OpenRow := OpenLaw.row PySem.Challenge.rw_anyleaver_k04_panels_gone_on
def loose : List PySem.Str := ["LeaveError", "BadPanel", "CAPITALS", "MOST_WAIT", "is_integer", "is_number", "is_index", "is_signal", "MODE_PARTS", "RULE_PARTS", "ARMED", "RINGS", "WAIT", "LATE", "is_mode", "is_rule", "Panel", "_law_deck", "_law_draw", "_law_pick", "_law_some", "_law_world", "_law_goes", "_law_till", "_law_right"]
def ob (s : SharedT) : AlQ := obsQ tab (frQ (HandSHeadRun.getT s) 4)
theorem ob_eq (s : SharedT) : ob s = (hookQ 4 tab).obs s.abs := by
  show obsQ tab (frQ (HandSHeadRun.getT s) 4) = obsQ tab (frQ s.abs.heap.get? 4)
  rw [show HandSHeadRun.getT s = s.abs.heap.get? from funext (HandSHeadRun.getT_eq s)]
theorem run (w : World) : HandSHeadRun.RunEq R (view R.prog [29]) (hookQ 4 tab) ob 4000 loose w := by
  intro os
  kernel_rfl
end Lw
open PySem PySem.W PySem.Calls PyProof.Rows
theorem of_run (hrun : ∀ ns : List Int, ns.length ≤ 63 → ∃ h', Q.fnAt Lw.tab.P 40 0 [.ref 0] [.ro (ns.map Q.D.int)] = .ok (.bl true) h') : PySem.Challenge.rw_anyleaver_k04_panels_gone_on.Holds := by
  w_on; o_law
  refine HandSHeadRun.head_any (r := OpenLaw.row PySem.Challenge.rw_anyleaver_k04_panels_gone_on) (q := view (OpenLaw.row PySem.Challenge.rw_anyleaver_k04_panels_gone_on).prog [29]) (H := Q.hookQ 4 Lw.tab) (ob := Lw.ob) (M := 4000) (loose := Lw.loose) (d := HandSHeadRun.topDef (OpenLaw.row PySem.Challenge.rw_anyleaver_k04_panels_gone_on).prog 29) (kwd := []) Lw.ob_eq
    (by kernel_rfl) (fun s => by kernel_rfl) Lw.run (by kernel_rfl) (by kernel_rfl) (by kernel_rfl) (by rfl) (by first | assumption | decide +kernel) (by decide +kernel) ⟨rfl, rfl, rfl, rfl, rfl, by decide +kernel⟩ ?hw ?hc
  case hw => w_witness2
  case hc =>
    exact Q.law_walk (t := Lw.tab) (n := 63) (k := 40) (li := 0) (x := "_law_script") (dL := Lw.d0) rfl (by decide) (by kernel_rfl) ⟨rfl, by decide, by decide⟩ Lw.tab_ok Lw.sgs_ok rfl (by decide +kernel) (by kernel_rfl) (List.mem_of_getElem? (i := 0) rfl) hrun
end
theorem run_all (ns : List Int) : ∃ h', Q.fnAt Lw.tab.P 40 0 [.ref 0] [.ro (ns.map Q.D.int)] = .ok (.bl true) h' := by
  rw [Lw.P_eq]
  have h := Lw.law_ok (X := Qw.NoE) (k := 20) (x0 := 0) (ns := ns) (h := [.ro (ns.map Q.D.int)]) (Q := fun d _ => d = .bl true) rfl fun _ => rfl
  obtain ⟨a, h1, e, rfl⟩ := Qw.Ok.ex (Qw.wk_iff.mp h)
  exact ⟨h1, e⟩
theorem PySem.Challenge.cw_anyleaver_k04_panels_gone_on_holds : PySem.Challenge.rw_anyleaver_k04_panels_gone_on.Holds := by
  exact of_run fun ns _ => run_all ns
